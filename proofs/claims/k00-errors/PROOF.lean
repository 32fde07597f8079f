import PyProof.Rows.All
import PySem.Challenge.RW_sharedboard_k00_errors
import Wide.All
import OpenK.AllK
import Wide.FinOn
import HandS.ForMost
import HandS.HeadHook2
import HandS.HeadHook3
import HandS.TupAny
import HandS.WideBits
import HandS.ExcInit
import HandS.ExcField
import HandS.TryMany
import HandS.Wide
import HandS.IsInst
import HandS.ExcOwn
import HandS.WordsExc
import HandS.Defaults
import HandS.Head0
import HandS.Head1
import HandS.Head2
import HandS.HeadEnd
import HandS.HeadHook1
import HandS.OwnEq
import HandS.Style
import PyProof.RulesMatch
import HandS.FStr
import HandS.Star
import HandS.Text
import HandS.MakeKwOnly
import KE.GoesEnum
import HandS.TupMul
import HandS.GenList
import PyProof.GenComp
import KE.KExcIs
import HandS.Deep
import HandS.SetFor
import KE.DataMinMax
import KE.SortData
import HandS.Rev
import PyProof.ListRange
import HandS.Sort
import HandS.StrMore
import PyProof.StrOps2
import HandS.ExcValue
set_option Elab.async false
set_option linter.all false
set_option autoImplicit false
set_option maxRecDepth 100000
set_option maxHeartbeats 4000000
/-! DL0: what the head's run is asked (it stands ahead of all else: the run wants much memory). -/
namespace DL
open PySem PySem.Spec PyProof.Rows L2 He
def tysD : List String := ["NoneType", "bool", "int", "str", "list", "tuple", "dict"]
def seerB (K : PySem.W.Frag) : Bool :=
  decide (PySem.W.nsIn K cStatics "sys.audit-hooks" = some none) && (decide (PySem.W.nsIn K cStatics "sys.dict" = some none) &&
  ((match K.lookup sysModules with
    | some ⟨_, _, .dict es _, _⟩ => es.toList.all (fun e => match e.key with | .str _ _ => true | _ => false) && (nsFind es "_pylong").isNone
    | _ => false) &&
  (match PySem.W.nsIn K mainGlobals "__builtins__" with
    | some (some (.ref bm)) => (match K.lookup bm with
      | some ⟨c, d, _, _⟩ => decide (c = .type "module") && decide (d = some builtinsNs)
      | _ => false)
    | _ => false)))
def obsE (fa : List Fa) (fn : List DefD) (ex : List (PySem.W.Frag → Bool)) (K : PySem.W.Frag) : AlD := ((obsD fa fn K).1 && ex.all fun e => e K, (obsD fa fn K).2)
def SaysE (fa : List Fa) (fn : List DefD) (ex : List (PySem.W.Frag → Bool)) (K : PySem.W.Frag) : Prop := obsE fa fn ex K = valD fn
def obsEG (n : Nat) (fa : List Fa) (fn : List DefD) (ex : List (PySem.W.Frag → Bool)) (g : Addr → Option Obj) : AlD := obsE fa fn ex (frG g (asD g n ++ [cStatics, sysModules]))
def hookE (n : Nat) (fa : List Fa) (fn : List DefD) (ex : List (PySem.W.Frag → Bool)) : PySem.W.Hook where
  α := AlD
  obs := fun s => obsEG n fa fn ex s.heap.get?
  val := fun _ => valD fn
  says := fun _ h => ∃ K : PySem.W.Frag, K.In h ∧ SaysE fa fn ex K
  of := fun _ _ e => ⟨_, frG_in, e⟩
  keeps := fun _ _ _ ⟨K, hK, c⟩ k => ⟨K, PySem.W.Frag.In.keeps hK k, c⟩
/-- an own class's facts -/
def clsB (x : Str) (K : PySem.W.Frag) : Bool :=
  (Fa.cls x).ok K && (eqO (PySem.W.findIn K (.ref (ga K x)) "__class__") (some (some (.builtin "object.__class__"))) &&
  (eqO (PySem.W.specialIn K (.builtin "object.__class__") "__get__") (some (some (.builtin "getset_descriptor.__get__"))) &&
  (decide (PySem.W.takesIn K (.builtin "object.__class__") = some true) &&
  (decide (PySem.W.mroIn K (ga K x) (.type "object") = some true) &&
  (tysD.all (fun T => decide (PySem.W.kitOne K (.ref (ga K x)) (.type T) = some false)) &&
  (decide (PySem.W.kitOne K (.ref (ga K x)) (.ref (ga K x)) = some true) &&
  (tysD.all (fun T => decide (PySem.W.kitOne K (.type T) (.ref (ga K x)) = some false)) &&
  (PySem.W.selfFirst K (ga K x) && (PySem.W.makesIn K (ga K x) && PySem.W.keepIn K (.ref (ga K x)))))))))))
def noatB (x : Str) (fields : List Str) (K : PySem.W.Frag) : Bool := fields.all fun f => eqO (PySem.W.findIn K (.ref (ga K x)) f) (some none)
def obsET (fa : List Fa) (fn : List DefD) (ex : List (PySem.W.Frag → Bool)) (ts : List Tab) (K : PySem.W.Frag) : AlT := (obsE fa fn ex K, ts.map fun t => dicW K (t.1 K))
def valET (fn : List DefD) (ts : List Tab) (w : World) : AlT := (valD fn, ts.map fun t => some (keysIn w.params t.2))
def SaysET (fa : List Fa) (fn : List DefD) (ex : List (PySem.W.Frag → Bool)) (ts : List Tab) (w : World) (K : PySem.W.Frag) : Prop := obsET fa fn ex ts K = valET fn ts w
def obsETG (n : Nat) (fa : List Fa) (fn : List DefD) (ex : List (PySem.W.Frag → Bool)) (ts : List Tab) (g : Addr → Option Obj) : AlT := obsET fa fn ex ts (frG g (asD g n ++ [cStatics, sysModules]))
def hookET (n : Nat) (fa : List Fa) (fn : List DefD) (ex : List (PySem.W.Frag → Bool)) (ts : List Tab) : PySem.W.Hook where
  α := AlT
  obs := fun s => obsETG n fa fn ex ts s.heap.get?
  val := fun w => valET fn ts w
  says := fun w h => ∃ K : PySem.W.Frag, K.In h ∧ SaysET fa fn ex ts w K
  of := fun _ _ e => ⟨_, frG_in, e⟩
  keeps := fun _ _ _ ⟨K, hK, c⟩ k => ⟨K, PySem.W.Frag.In.keeps hK k, c⟩
/-- the table at the module's name x: its items, words that are no keys -/
def kdB (x : Str) (kvs : List (Str × Int)) (no : List Str) (K : PySem.W.Frag) : Bool := valsB K (ga K x) (kvs.map fun q => (q.1, Dv.int q.2)) && no.all fun z => eqO (PySem.W.nsIn K (ga K x) z) (some none)
end DL
set_option Elab.async false
set_option linter.all false
set_option autoImplicit false
set_option maxRecDepth 100000
set_option maxHeartbeats 4000000
/-! DL0b: what the head's run is asked of own exception classes. -/
namespace DL
open PySem PySem.Spec PyProof.Rows L2 He
/-- its object's form -/
def oexC1 (K : PySem.W.Frag) (C : Addr) : Bool := match K.lookup C with
  | some ⟨.type "type", _, .cls cd, sl⟩ => (match cd.mro, sl.toList with
    | .ref C' :: bm, [_, _, _, _, some (.builtin n), _] => C' == C && (n == "ValueError.__new__" && (!cd.hasDel && (cd.hasDict && PySem.HandSPX.refsVE (.ref C' :: bm))))
    | _, _ => false)
  | _ => false
def baseB (x : Str) (K : PySem.W.Frag) : Bool := decide (PySem.W.subIn K (.ref (ga K x)) (.type "BaseException") = some true) && (decide (PySem.W.typeIn K (.ref (ga K x)) = some (.type "type")) && PySem.W.keepIn K (.ref (ga K x)))
/-- a class with its own __init__ -/
def oexB (x : Str) (K : PySem.W.Frag) : Bool := oexC1 K (ga K x) && (eqO (PySem.W.findIn K (.ref (ga K x)) "__setattr__") (some (some (.builtin "object.__setattr__"))) && baseB x K)
/-- a class without one -/
def exc0B (x : Str) (K : PySem.W.Frag) : Bool := PySem.W.excIn K (ga K x) [.type "ValueError", .type "Exception", .type "BaseException", .type "object"] "ValueError.__new__" && baseB x K
/-- caught by its name, its field f read -/
def xhB (x f : Str) (K : PySem.W.Frag) : Bool := decide (PySem.W.exmOne K (.ref (ga K x)) (.ref (ga K x)) = some true) && (xfB K (ga K x) && eqO (PySem.W.findIn K (.ref (ga K x)) f) (some none))
end DL
set_option Elab.async false
set_option linter.all false
set_option autoImplicit false
set_option maxRecDepth 100000
set_option maxHeartbeats 4000000
/-! DL0c: what the head's run is asked of a class that is caught by its own name. -/
namespace DL
open PySem PySem.Spec PyProof.Rows L2 He
def exmB (x : Str) (K : PySem.W.Frag) : Bool := decide (PySem.W.exmOne K (.ref (ga K x)) (.ref (ga K x)) = some true)
end DL
set_option Elab.async false
set_option linter.all false
set_option autoImplicit false
set_option maxRecDepth 100000
set_option maxHeartbeats 4000000
/-! DL0d: what the head's run is asked of two classes of which the one is not caught by the other's name. -/
namespace DL
open PySem PySem.Spec PyProof.Rows L2 He
def exmN (x y : Str) (K : PySem.W.Frag) : Bool := decide (PySem.W.exmOne K (.ref (ga K x)) (.ref (ga K y)) = some false)
end DL
set_option Elab.async false
set_option linter.all false
set_option autoImplicit false
set_option maxRecDepth 100000
set_option maxHeartbeats 4000000
/-! DL0e: what the head's run is asked of an own exception class that isinstance looks at. -/
namespace DL
open PySem PySem.Spec PyProof.Rows L2 He
def xisB (x : Str) (K : PySem.W.Frag) : Bool := decide ((PySem.W.clsIn K (ga K x)).isSome = true) && decide (PySem.W.findIn K (.ref (ga K x)) "__getattribute__" = some (some (.builtin "BaseException.__getattribute__"))) &&
  decide (PySem.W.findIn K (.ref (ga K x)) "__getattr__" = some none) && decide (PySem.W.subIn K (.ref (ga K x)) (.type "BaseException") = some true) && decide (PySem.W.findIn K (.ref (ga K x)) "__class__" = some (some (.builtin "object.__class__"))) &&
  decide (PySem.W.specialIn K (.builtin "object.__class__") "__get__" = some (some (.builtin "getset_descriptor.__get__"))) && decide (PySem.W.takesIn K (.builtin "object.__class__") = some true) && decide (PySem.W.mroIn K (ga K x) (.type "object") = some true)
def kitXB (x y : Str) (b : Bool) (K : PySem.W.Frag) : Bool := decide (PySem.W.kitOne K (.ref (ga K x)) (.ref (ga K y)) = some b)
end DL
set_option Elab.async false
set_option linter.all false
set_option autoImplicit false
set_option maxRecDepth 100000
set_option maxHeartbeats 4000000
/-! DL0f: what the head's run is asked of an own exception class that a name of another class catches, and of isinstance with a class of the language. -/
namespace DL
open PySem PySem.Spec PyProof.Rows L2 He
def exmT (x y : Str) (K : PySem.W.Frag) : Bool := decide (PySem.W.exmOne K (.ref (ga K x)) (.ref (ga K y)) = some true)
theorem exmT_ok {K : PySem.W.Frag} {x y : Str} (c : exmT x y K = true) : PySem.W.exmOne K (.ref (ga K x)) (.ref (ga K y)) = some true := of_decide_eq_true c
def kitTB (x : Str) (y : String) (b : Bool) (K : PySem.W.Frag) : Bool := decide (PySem.W.kitOne K (.ref (ga K x)) (.type y) = some b)
end DL
set_option Elab.async false
set_option linter.all false
set_option autoImplicit false
set_option maxRecDepth 100000
set_option maxHeartbeats 4000000
/-! DL0g: what isinstance tells of many own exception classes, the last of which is the base of all. -/
namespace DL
open PySem PySem.Spec PyProof.Rows L2 He
def kindsB (xs : List Str) (ts : List (String × Bool)) (K : PySem.W.Frag) : Bool :=
  (List.range xs.length).all fun i => xisB (xs.getD i "") K && ((List.range xs.length).all (fun j => decide (PySem.W.kitOne K (.ref (ga K (xs.getD i ""))) (.ref (ga K (xs.getD j ""))) = some (decide (i = j) || decide (j + 1 = xs.length)))) &&
    ts.all fun t => decide (PySem.W.kitOne K (.ref (ga K (xs.getD i ""))) (.type t.1) = some t.2))
end DL
set_option Elab.async false
set_option linter.all false
set_option autoImplicit false
set_option maxRecDepth 100000
set_option maxHeartbeats 4000000
/-! DL: a layer of plain data over the hand layer: values as trees, no heap in sight. -/
namespace DL
open PySem PySem.Spec PyProof.Rows L2

/-- plain data -/
inductive D where
  | non | bl (b : Bool) | int (i : Int) | str (s : Str) | lst (ds : List D) | tup (ds : List D)
  /-- an instance of the class at C, by its attributes -/
  | obj (C : Addr) (fs : List (Str × D))
  /-- an empty dict -/
  | emp
  /-- a box: what stands at p now -/
  | ref (p : Addr)
  deriving Inhabited

/-- at the stable heap S the value denotes the data -/
inductive Den (S : Hp) : V → D → Prop
  | non : Den S .non .non
  | bl (b : Bool) : Den S (.bl b) (.bl b)
  | int (i : Int) : Den S (.int i) (.int i)
  | str (s : Str) : Den S (.str s) (.str s)
  | lst {a : Addr} {xs : List V} {ds : List D} (h : S a = some (.lst xs)) (hl : xs.length = ds.length) (hs : ∀ (i : Nat) x d, xs[i]? = some x → ds[i]? = some d → Den S x d) : Den S (.ref a) (.lst ds)
  | tup {a : Addr} {xs : List V} {ds : List D} (h : S a = some (.tup xs)) (hl : xs.length = ds.length) (hs : ∀ (i : Nat) x d, xs[i]? = some x → ds[i]? = some d → Den S x d) : Den S (.ref a) (.tup ds)
  | obj {a dx C : Addr} {vs : List (Str × V)} {fs : List (Str × D)} (h : S a = some (.ins C dx vs)) (hl : vs.length = fs.length) (hn : ∀ (i : Nat) x d, vs[i]? = some x → fs[i]? = some d → x.1 = d.1) (hs : ∀ (i : Nat) x d, vs[i]? = some x → fs[i]? = some d → Den S x.2 d.2) : Den S (.ref a) (.obj C fs)
  | emp {a : Addr} (h : S a = some (.dK [])) : Den S (.ref a) .emp
  | ref (p : Addr) : Den S (.ref p) (.ref p)

def DenL (S : Hp) (xs : List V) (ds : List D) : Prop := xs.length = ds.length ∧ ∀ (i : Nat) x d, xs[i]? = some x → ds[i]? = some d → Den S x d

section
variable {S S' : Hp} {v x : V} {d : D} {xs ys : List V} {ds es : List D}
theorem Den.mono (h : Den S v d) (e : Same S S') : Den S' v d := by
  induction h with
  | non => exact .non
  | bl b => exact .bl b
  | int i => exact .int i
  | str s => exact .str s
  | lst h hl hs ih => exact .lst (e _ _ h) hl fun i x d h1 h2 => ih i x d h1 h2
  | tup h hl hs ih => exact .tup (e _ _ h) hl fun i x d h1 h2 => ih i x d h1 h2
  | obj h hl hn hs ih => exact .obj (e _ _ h) hl hn fun i x d h1 h2 => ih i x d h1 h2
  | emp h => exact .emp (e _ _ h)
  | ref p => exact .ref p
theorem DenL.mono (h : DenL S xs ds) (e : Same S S') : DenL S' xs ds := ⟨h.1, fun i x d h1 h2 => (h.2 i x d h1 h2).mono e⟩
theorem DenL.nil : DenL S [] [] := ⟨rfl, fun i x d h => by simp at h⟩
theorem DenL.cons (h : Den S x d) (t : DenL S xs ds) : DenL S (x :: xs) (d :: ds) := by
  refine ⟨by rw [List.length_cons, List.length_cons, t.1], fun i y e h1 h2 => ?_⟩
  cases i with
  | zero =>
    rw [List.getElem?_cons_zero] at h1 h2
    cases h1; cases h2
    exact h
  | succ i =>
    rw [List.getElem?_cons_succ] at h1 h2
    exact t.2 i y e h1 h2
theorem DenL.tail (t : DenL S (x :: xs) (d :: ds)) : DenL S xs ds := ⟨by have := t.1; simpa using this, fun i y e h1 h2 => t.2 (i + 1) y e (by simpa using h1) (by simpa using h2)⟩
theorem DenL.head (t : DenL S (x :: xs) (d :: ds)) : Den S x d := t.2 0 x d rfl rfl
theorem DenL.nil_inv (h : DenL S xs []) : xs = [] := List.length_eq_zero_iff.mp h.1
theorem DenL.cons_inv {d : D} {ds : List D} (h : DenL S xs (d :: ds)) : ∃ x r, xs = x :: r ∧ Den S x d ∧ DenL S r ds := by
  cases xs with
  | nil => have := h.1; simp at this
  | cons x r => exact ⟨x, r, rfl, h.head, h.tail⟩
theorem DenL.append (h : DenL S xs ds) (k : DenL S ys es) : DenL S (xs ++ ys) (ds ++ es) := by
  refine ⟨by rw [List.length_append, List.length_append, h.1, k.1], fun i y e h1 h2 => ?_⟩
  by_cases hi : i < xs.length
  · rw [List.getElem?_append_left hi] at h1
    rw [List.getElem?_append_left (by rw [← h.1]; exact hi)] at h2
    exact h.2 i y e h1 h2
  · rw [List.getElem?_append_right (by omega)] at h1
    rw [List.getElem?_append_right (by rw [← h.1]; omega), ← h.1] at h2
    exact k.2 _ y e h1 h2
theorem DenL.snoc (h : DenL S xs ds) (k : Den S v d) : DenL S (xs ++ [v]) (ds ++ [d]) := h.append (.cons k .nil)
theorem DenL.get (h : DenL S xs ds) {i : Nat} {d : D} (e : ds[i]? = some d) : ∃ x, xs[i]? = some x ∧ Den S x d := by
  have hi : i < ds.length := (List.getElem?_eq_some_iff.mp e).1
  have hx : i < xs.length := by rw [h.1]; exact hi
  exact ⟨xs[i], List.getElem?_eq_getElem hx, h.2 i _ _ (List.getElem?_eq_getElem hx) e⟩
theorem DenL.getV (h : DenL S xs ds) {i : Nat} {x : V} (e : xs[i]? = some x) : ∃ d, ds[i]? = some d ∧ Den S x d := by
  have hi : i < xs.length := (List.getElem?_eq_some_iff.mp e).1
  have hx : i < ds.length := by rw [← h.1]; exact hi
  exact ⟨ds[i], List.getElem?_eq_getElem hx, h.2 i _ _ e (List.getElem?_eq_getElem hx)⟩
theorem DenL.take (h : DenL S xs ds) (n : Nat) : DenL S (xs.take n) (ds.take n) := by
  refine ⟨by rw [List.length_take, List.length_take, h.1], fun i y e h1 h2 => ?_⟩
  rw [List.getElem?_take] at h1 h2
  split at h1
  · rename_i hi
    rw [if_pos hi] at h2
    exact h.2 i y e h1 h2
  · cases h1
theorem DenL.drop (h : DenL S xs ds) (n : Nat) : DenL S (xs.drop n) (ds.drop n) := by
  refine ⟨by rw [List.length_drop, List.length_drop, h.1], fun i y e h1 h2 => ?_⟩
  rw [List.getElem?_drop] at h1 h2
  exact h.2 _ y e h1 h2
theorem DenL.set (h : DenL S xs ds) (k : Den S v d) (j : Nat) : DenL S (xs.set j v) (ds.set j d) := by
  refine ⟨by rw [List.length_set, List.length_set, h.1], fun i y e h1 h2 => ?_⟩
  by_cases hi : j = i
  · subst hi
    by_cases hj : j < xs.length
    · rw [List.getElem?_set_self hj] at h1
      rw [List.getElem?_set_self (by rw [← h.1]; exact hj)] at h2
      cases h1; cases h2
      exact k
    · rw [List.getElem?_eq_none (by rw [List.length_set]; omega)] at h1
      cases h1
  · rw [List.getElem?_set_ne hi] at h1 h2
    exact h.2 i y e h1 h2
theorem DenL.ints : ∀ (ns : List Int), DenL S (ns.map V.int) (ns.map D.int)
  | [] => .nil
  | n :: r => .cons (.int n) (DenL.ints r)
theorem Den.ofL {a : Addr} (h : S a = some (.lst xs)) (k : DenL S xs ds) : Den S (.ref a) (.lst ds) := .lst h k.1 k.2
theorem Den.ofT {a : Addr} (h : S a = some (.tup xs)) (k : DenL S xs ds) : Den S (.ref a) (.tup ds) := .tup h k.1 k.2
theorem Den.lst_inv (h : Den S v (.lst ds)) : ∃ a xs, v = .ref a ∧ S a = some (.lst xs) ∧ DenL S xs ds := by
  cases h with
  | lst h hl hs => exact ⟨_, _, rfl, h, hl, hs⟩
theorem Den.tup_inv (h : Den S v (.tup ds)) : ∃ a xs, v = .ref a ∧ S a = some (.tup xs) ∧ DenL S xs ds := by
  cases h with
  | tup h hl hs => exact ⟨_, _, rfl, h, hl, hs⟩
end

/-! ### attributes -/
/-- attributes denote data, name by name -/
def DenF (S : Hp) (vs : List (Str × V)) (fs : List (Str × D)) : Prop := vs.length = fs.length ∧ ∀ (i : Nat) x d, vs[i]? = some x → fs[i]? = some d → x.1 = d.1 ∧ Den S x.2 d.2
section
variable {S S' : Hp} {v : V} {d : D} {vs : List (Str × V)} {fs : List (Str × D)} {f : Str}
theorem DenF.mono (h : DenF S vs fs) (e : Same S S') : DenF S' vs fs := ⟨h.1, fun i x d h1 h2 => ⟨(h.2 i x d h1 h2).1, (h.2 i x d h1 h2).2.mono e⟩⟩
theorem DenF.nil : DenF S [] [] := ⟨rfl, fun i x d h => by simp at h⟩
theorem DenF.cons {x : Str × V} {d : Str × D} (e : x.1 = d.1) (h : Den S x.2 d.2) (t : DenF S vs fs) : DenF S (x :: vs) (d :: fs) := by
  refine ⟨by rw [List.length_cons, List.length_cons, t.1], fun i y c h1 h2 => ?_⟩
  cases i with
  | zero =>
    rw [List.getElem?_cons_zero] at h1 h2
    cases h1; cases h2
    exact ⟨e, h⟩
  | succ i =>
    rw [List.getElem?_cons_succ] at h1 h2
    exact t.2 i y c h1 h2
theorem DenF.tail {x : Str × V} {d : Str × D} (t : DenF S (x :: vs) (d :: fs)) : DenF S vs fs := ⟨by have := t.1; simpa using this, fun i y e h1 h2 => t.2 (i + 1) y e (by simpa using h1) (by simpa using h2)⟩
theorem DenF.head {x : Str × V} {d : Str × D} (t : DenF S (x :: vs) (d :: fs)) : x.1 = d.1 ∧ Den S x.2 d.2 := t.2 0 x d rfl rfl
theorem DenF.nil_inv (h : DenF S vs []) : vs = [] := List.length_eq_zero_iff.mp h.1
/-- an attribute by its name -/
theorem DenF.look : ∀ {vs : List (Str × V)} {fs : List (Str × D)}, DenF S vs fs → ∀ {d : D}, fs.lookup f = some d → ∃ v, vs.lookup f = some v ∧ Den S v d
  | [], [], _, d, e => by cases e
  | [], _ :: _, h, _, _ => by have := h.1; simp at this
  | _ :: _, [], h, _, _ => by have := h.1; simp at this
  | (g, x) :: vs, (k, y) :: fs, h, d, e => by
    obtain ⟨h1, h2⟩ := h.head
    have h1 : g = k := h1
    subst h1
    by_cases q : f = g
    · subst q
      rw [List.lookup_cons_self] at e ⊢
      cases e
      exact ⟨x, rfl, h2⟩
    · have b : (f == g) = false := beq_eq_false_iff_ne.mpr q
      rw [List.lookup_cons, b] at e ⊢
      exact h.tail.look e
/-- an attribute set -/
def putD (f : Str) (d : D) : List (Str × D) → List (Str × D)
  | [] => [(f, d)]
  | (g, x) :: r => if g = f then (g, d) :: r else (g, x) :: putD f d r
theorem DenF.put : ∀ {vs : List (Str × V)} {fs : List (Str × D)}, DenF S vs fs → Den S v d → DenF S (putF f v vs) (putD f d fs)
  | [], [], _, h => .cons rfl h .nil
  | [], _ :: _, h, _ => by have := h.1; simp at this
  | _ :: _, [], h, _ => by have := h.1; simp at this
  | (g, x) :: vs, (k, y) :: fs, t, h => by
    obtain ⟨h1, h2⟩ := t.head
    have h1 : g = k := h1
    subst h1
    unfold putF putD
    by_cases q : g = f
    · rw [if_pos q, if_pos q]; exact .cons rfl h t.tail
    · rw [if_neg q, if_neg q]; exact .cons rfl h2 (t.tail.put h)
theorem Den.ofO {a dx C : Addr} (h : S a = some (.ins C dx vs)) (k : DenF S vs fs) : Den S (.ref a) (.obj C fs) := .obj h k.1 (fun i x d h1 h2 => (k.2 i x d h1 h2).1) (fun i x d h1 h2 => (k.2 i x d h1 h2).2)
end

/-! ### the state: the slots' data over the stable heap S, the real heap H -/
/-- the entry: the heap, the stable heap, the caller's things that may change; things kept aside -/
structure Bs where
  H0 : Hp
  S0 : Hp
  mu : List Addr
  fr : List (Addr × HO) := []
  /-- what the caller's lists denote over -/
  SP : Hp := fun _ => none
def Bs.fram (B : Bs) (p : Addr) (o : HO) : Bs := { B with fr := (p, o) :: B.fr }
/-- what stands in a box: a list, an instance, a dict -/
inductive Bx where
  | lst (ds : List D) | ins (C : Addr) (fs : List (Str × D))
  /-- a dict with text keys -/
  | dct (fs : List (Str × D))
  /-- an exception at p of the class at C, its dict at d; the dict of one, at p -/
  | exc (p C : Addr) (d : Option Addr) | xd (p : Addr) (fs : List (Str × D))
/-- boxes by their places -/
abbrev Bxs := Addr → Option Bx
def BxOk (S : Hp) : Option HO → Option Bx → Prop
  | none, none => True
  | some o, some (.lst ds) => ∃ xs, o = .lst xs ∧ DenL S xs ds
  | some o, some (.ins C fs) => ∃ dx vs, o = .ins C dx vs ∧ DenF S vs fs
  | some o, some (.dct fs) => ∃ vs : List (Str × V), o = .dK (vs.map fun p => (.inr p.1, p.2)) ∧ DenF S vs fs
  | some o, some (.exc p C d) => o = L2.exo p C d
  | some o, some (.xd p fs) => ∃ vs, o = L2.exd p vs ∧ DenF S vs fs
  | _, _ => False
theorem BxOk.mono {S S' : Hp} {o : Option HO} {b : Option Bx} (h : BxOk S o b) (e : Same S S') : BxOk S' o b := by
  cases o with
  | none =>
    cases b with
    | none => trivial
    | some b => exact h.elim
  | some o =>
    cases b with
    | none => exact h.elim
    | some b =>
      cases b with
      | lst ds => obtain ⟨xs, h1, h2⟩ := h; exact ⟨xs, h1, h2.mono e⟩
      | ins C fs => obtain ⟨dx, vs, h1, h2⟩ := h; exact ⟨dx, vs, h1, h2.mono e⟩
      | dct fs => obtain ⟨vs, h1, h2⟩ := h; exact ⟨vs, h1, h2.mono e⟩
      | exc p C d => exact h
      | xd p fs => obtain ⟨vs, h1, h2⟩ := h; exact ⟨vs, h1, h2.mono e⟩
/-- boxes in the part F of the heap; finitely many -/
def BxsOk (S F : Hp) (L : Bxs) : Prop := (∃ ks : List Addr, ∀ p, L p ≠ none → p ∈ ks) ∧ ∀ p, BxOk S (F p) (L p)
/-- what a slot holds: unknown; data; a list of one's own (m: the caller's), by its items; the script; an instance of one's own -/
inductive Sl where
  | any | val (d : D) | own (m : Bool) (ds : List D) | scr (ns : List Int) | ins (m : Bool) (C : Addr) (fs : List (Str × D))
  /-- boxes (m: the caller's too) -/
  | hp (m : Bool) (L : Bxs)
def emptyH : Hp := fun _ => none
/-- F: the slot's own part of the heap -/
def SlF (K : PySem.W.Frag) (B : Bs) (S F : Hp) (o : Option (Option V)) : Sl → Prop
  | .any => True
  | .val d => ∃ v, o = some (some v) ∧ Den S v d
  | .own m ds => ∃ p xs, o = some (some (.ref p)) ∧ F p = some (.lst xs) ∧ DenL (if m = true then B.SP else S) xs ds ∧ (m = true → p ∈ B.mu)
  | .scr ns => ∃ a, o = some (some (.ref a)) ∧ SqL K S a (ns.map V.int)
  | .ins m C fs => ∃ p dx vs, o = some (some (.ref p)) ∧ F p = some (.ins C dx vs) ∧ DenF S vs fs ∧ (m = true → p ∈ B.mu)
  | .hp _ L => BxsOk S F L
/-- may the slot hold things of its own; the caller's too? -/
def Sl.may : Sl → Option Bool
  | .own m _ => some m
  | .ins m _ _ => some m
  | .hp m _ => some m
  | _ => none
/-- where the caller's thing of slot i stands -/
def Sl.at_ (s : Sl) (B : Bs) (i : Nat) (a : Addr) : Prop := match s with
  | .hp _ _ => a ∈ B.mu
  | _ => B.mu[i]? = some a
theorem Sl.at_mem {s : Sl} {B : Bs} {i : Nat} {a : Addr} (h : s.at_ B i a) : a ∈ B.mu := by
  cases s with
  | hp m L => exact h
  | any => exact List.mem_of_getElem? h
  | val d => exact List.mem_of_getElem? h
  | own m ds => exact List.mem_of_getElem? h
  | scr ns => exact List.mem_of_getElem? h
  | ins m C fs => exact List.mem_of_getElem? h
def MayOwn (B : Bs) (i : Nat) (s : Option Sl) (a : Addr) : Prop := ∃ s' m, s = some s' ∧ s'.may = some m ∧ (m = true ∧ s'.at_ B i a ∨ B.H0 a = none)
structure RelF (K : PySem.W.Frag) (B : Bs) (S H : Hp) (σ : L2.St) (γ : List Sl) (φ : Nat → Hp) : Prop where
  same : Same S H
  keep : ∀ a o, B.H0 a = some o → a ∉ B.mu → H a = some o
  muk : ∀ a, a ∈ B.mu → B.S0 a = none ∧ (∃ o, B.H0 a = some o) ∧ ∃ o, H a = some o
  grow : Same B.S0 S
  ext : ∀ a o, S a = some o → B.S0 a = some o ∨ B.H0 a = none
  len : σ.length = γ.length
  sl : ∀ (i : Nat) s, γ[i]? = some s → SlF K B S (φ i) σ[i]? s
  phH : ∀ i, Same (φ i) H
  phS : ∀ i a o, φ i a = some o → S a = none
  phD : ∀ i j a o u, i ≠ j → φ i a = some o → φ j a = some u → False
  phO : ∀ i a o, φ i a = some o → MayOwn B i γ[i]? a
  frm : ∀ p o, (p, o) ∈ B.fr → H p = some o ∧ S p = none ∧ B.H0 p = none ∧ ∀ i, φ i p = none
  frn : (B.fr.map (·.1)).Nodup
  spS : Same B.SP B.S0
def Rel0 (K : PySem.W.Frag) (B : Bs) (S H : Hp) (σ : L2.St) (γ : List Sl) : Prop := ∃ φ, RelF K B S H σ γ φ
/-- a slot by the real heap -/
def SlOk (K : PySem.W.Frag) (B : Bs) (S H : Hp) (o : Option (Option V)) : Sl → Prop
  | .any => True
  | .val d => ∃ v, o = some (some v) ∧ Den S v d
  | .own m ds => ∃ p xs, o = some (some (.ref p)) ∧ S p = none ∧ H p = some (.lst xs) ∧ DenL S xs ds ∧ (m = true → p ∈ B.mu ∧ DenL B.SP xs ds)
  | .scr ns => ∃ a, o = some (some (.ref a)) ∧ SqL K S a (ns.map V.int)
  | .ins m C fs => ∃ p dx vs, o = some (some (.ref p)) ∧ S p = none ∧ H p = some (.ins C dx vs) ∧ DenF S vs fs ∧ (m = true → p ∈ B.mu)
  | .hp m L => ∀ p b, L p = some b → S p = none ∧ BxOk S (H p) (some b)
theorem Same.upd {S H : Hp} {p : Addr} {o : HO} (e : Same S H) (h : H p = none) : Same S (upd H p o) := fun b x q => by
  rw [upd_ne (ne_of_none (e b x q) h)]
  exact e b x q
theorem Same.updS {S H : Hp} {p : Addr} {o : HO} (e : Same S H) (h : S p = none) : Same S (L2.upd H p o) := fun b x q => by
  rw [upd_ne (ne_of_none q h)]
  exact e b x q
theorem Same.updB {S H : Hp} {p : Addr} {o : HO} (e : Same S H) : Same (L2.upd S p o) (L2.upd H p o) := fun b x q => by
  by_cases hb : b = p
  · subst hb; rw [upd_same] at q ⊢; exact q
  · rw [upd_ne hb] at q ⊢; exact e b x q
theorem Same.updL {S H : Hp} {p : Addr} {o : HO} (e : Same S H) (h : H p = some o) : Same (L2.upd S p o) H := fun b x q => by
  by_cases hb : b = p
  · subst hb; rw [upd_same] at q; cases q; exact h
  · rw [upd_ne hb] at q; exact e b x q
theorem set_get {α : Type} {l : List α} {i : Nat} {x y : α} (h : l[i]? = some x) (j : Nat) : (l.set i y)[j]? = if j = i then some y else l[j]? := by
  by_cases e : j = i
  · subst e
    rw [if_pos rfl, List.getElem?_set_self (List.getElem?_eq_some_iff.mp h).1]
  · rw [if_neg e, List.getElem?_set_ne (fun z => e z.symm)]
section
variable {K : PySem.W.Frag} {B : Bs} {S S' H H' : Hp} {σ : L2.St} {γ : List Sl} {p : Addr} {o : HO} {φ : Nat → Hp}
theorem SlF.mono {F : Hp} {o : Option (Option V)} {s : Sl} (h : SlF K B S F o s) (e : Same S S') : SlF K B S' F o s := by
  cases s with
  | any => trivial
  | val d => obtain ⟨v, e1, e2⟩ := h; exact ⟨v, e1, e2.mono e⟩
  | own m ds =>
    obtain ⟨p, xs, f1, f2, f3, f4⟩ := h
    refine ⟨p, xs, f1, f2, ?_, f4⟩
    cases m with
    | true => exact f3
    | false => exact DenL.mono f3 e
  | scr ns => obtain ⟨a, e1, e2⟩ := h; exact ⟨a, e1, e.seq e2⟩
  | ins m C fs => obtain ⟨p, dx, vs, f1, f2, f3, f4⟩ := h; exact ⟨p, dx, vs, f1, f2, f3.mono e, f4⟩
  | hp m L => exact ⟨h.1, fun p => (h.2 p).mono e⟩
theorem Rel0.same (R : Rel0 K B S H σ γ) : Same S H := let ⟨_, r⟩ := R; r.same
theorem Rel0.keep (R : Rel0 K B S H σ γ) : ∀ a o, B.H0 a = some o → a ∉ B.mu → H a = some o := let ⟨_, r⟩ := R; r.keep
theorem Rel0.muk (R : Rel0 K B S H σ γ) : ∀ a, a ∈ B.mu → B.S0 a = none ∧ (∃ o, B.H0 a = some o) ∧ ∃ o, H a = some o := let ⟨_, r⟩ := R; r.muk
theorem Rel0.grow (R : Rel0 K B S H σ γ) : Same B.S0 S := let ⟨_, r⟩ := R; r.grow
theorem Rel0.ext (R : Rel0 K B S H σ γ) : ∀ a o, S a = some o → B.S0 a = some o ∨ B.H0 a = none := let ⟨_, r⟩ := R; r.ext
theorem Rel0.len (R : Rel0 K B S H σ γ) : σ.length = γ.length := let ⟨_, r⟩ := R; r.len
theorem Rel0.sl (R : Rel0 K B S H σ γ) (i : Nat) (s : Sl) (h : γ[i]? = some s) : SlOk K B S H σ[i]? s := by
  obtain ⟨φ, r⟩ := R
  have q := r.sl i s h
  cases s with
  | any => trivial
  | val d => exact q
  | own m ds =>
    obtain ⟨p, xs, f1, f2, f3, f4⟩ := q
    refine ⟨p, xs, f1, r.phS i _ _ f2, r.phH i _ _ f2, ?_, fun hm => ⟨f4 hm, ?_⟩⟩
    · cases m with
      | true => exact DenL.mono f3 (r.spS.trans r.grow)
      | false => exact f3
    · subst hm; exact f3
  | scr ns => exact q
  | ins m C fs => obtain ⟨p, dx, vs, f1, f2, f3, f4⟩ := q; exact ⟨p, dx, vs, f1, r.phS i _ _ f2, r.phH i _ _ f2, f3, f4⟩
  | hp m L =>
    intro p b hb
    have k := q.2 p
    rw [hb] at k
    cases hF : φ i p with
    | none => rw [hF] at k; exact k.elim
    | some o => rw [hF] at k; exact ⟨r.phS i _ _ hF, by rw [r.phH i _ _ hF]; exact k⟩
theorem RelF.fresh0 (r : RelF K B S H σ γ φ) (h : H p = none) : B.H0 p = none := by
  cases e : B.H0 p with
  | none => rfl
  | some o =>
    by_cases hm : p ∈ B.mu
    · obtain ⟨_, _, xs, e2⟩ := r.muk p hm
      rw [h] at e2; cases e2
    · rw [r.keep p o e hm] at h; cases h
theorem Rel0.fresh0 (R : Rel0 K B S H σ γ) (h : H p = none) : B.H0 p = none := let ⟨_, r⟩ := R; r.fresh0 h
theorem Rel0.freshS (R : Rel0 K B S H σ γ) (h : H p = none) : S p = none := R.same.free h
theorem RelF.freshP (r : RelF K B S H σ γ φ) (h : H p = none) (i : Nat) : φ i p = none := by
  cases e : φ i p with
  | none => rfl
  | some o => rw [r.phH i _ _ e] at h; cases h
theorem RelF.freshF (r : RelF K B S H σ γ φ) (h : H p = none) : p ∉ B.fr.map (·.1) := fun hm => by
  obtain ⟨⟨q, u⟩, hq, e⟩ := List.mem_map.mp hm
  have e : q = p := e
  subst e
  rw [(r.frm _ _ hq).1] at h; cases h
/-- a new stable object -/
theorem Rel0.new (R : Rel0 K B S H σ γ) (h : H p = none) : Rel0 K B (upd S p o) (upd H p o) σ γ := by
  obtain ⟨φ, r⟩ := R
  have eS : Same S (L2.upd S p o) := Same.upd (Same.refl S) (r.same.free h)
  have eH : Same H (L2.upd H p o) := Same.upd (Same.refl H) h
  have ne : ∀ {i a u}, φ i a = some u → a ≠ p := fun {i a u} e => ne_of_none (r.phH i _ _ e) h
  refine ⟨φ, Same.updB r.same, fun a x e hm => eH _ _ (r.keep a x e hm), fun a ha => ?_, fun a x e => eS _ _ (r.grow a x e), fun a x e => ?_, r.len, fun i s e => (r.sl i s e).mono eS, fun i a x e => eH _ _ (r.phH i a x e), fun i a x e => by rw [upd_ne (ne e)]; exact r.phS i a x e, r.phD, r.phO, fun a u hu => ?_, r.frn, r.spS⟩
  · obtain ⟨h1, h2, xs, h3⟩ := r.muk a ha
    exact ⟨h1, h2, xs, eH _ _ h3⟩
  · by_cases ha : a = p
    · subst ha; exact .inr (r.fresh0 h)
    · rw [upd_ne ha] at e; exact r.ext a x e
  · obtain ⟨h1, h2, h3⟩ := r.frm a u hu
    exact ⟨eH _ _ h1, by rw [upd_ne (ne_of_none h1 h)]; exact h2, h3⟩
/-- a new object, kept aside -/
theorem Rel0.newF (R : Rel0 K B S H σ γ) (h : H p = none) : Rel0 K (B.fram p o) S (upd H p o) σ γ := by
  obtain ⟨φ, r⟩ := R
  have eH : Same H (L2.upd H p o) := Same.upd (Same.refl H) h
  refine ⟨φ, Same.upd r.same h, fun a x e hm => eH _ _ (r.keep a x e hm), fun a ha => ?_, r.grow, r.ext, r.len, r.sl, fun i a x e => eH _ _ (r.phH i a x e), r.phS, r.phD, r.phO, fun a u hu => ?_, ?_, r.spS⟩
  · obtain ⟨h1, h2, xs, h3⟩ := r.muk a ha
    exact ⟨h1, h2, xs, eH _ _ h3⟩
  · rcases List.mem_cons.mp hu with z | z
    · cases z; exact ⟨upd_same, r.same.free h, r.fresh0 h, r.freshP h⟩
    · obtain ⟨h1, h2, h3⟩ := r.frm a u z
      exact ⟨eH _ _ h1, h2, h3⟩
  · show ((p, o) :: B.fr |>.map (·.1)).Nodup
    rw [List.map_cons]
    exact List.nodup_cons.mpr ⟨r.freshF h, r.frn⟩
/-- a thing kept aside: what is known of it -/
theorem Rel0.unfram (R : Rel0 K (B.fram p o) S H σ γ) : Rel0 K B S H σ γ ∧ H p = some o ∧ S p = none ∧ B.H0 p = none := by
  obtain ⟨φ, r⟩ := R
  have q := r.frm p o (List.mem_cons_self ..)
  have n : ((p, o) :: B.fr |>.map (·.1)).Nodup := r.frn
  rw [List.map_cons] at n
  exact ⟨⟨φ, r.same, r.keep, r.muk, r.grow, r.ext, r.len, r.sl, r.phH, r.phS, r.phD, r.phO, fun q u hq => r.frm q u (List.mem_cons_of_mem _ hq), (List.nodup_cons.mp n).2, r.spS⟩, q.1, q.2.1, q.2.2.1⟩
/-- a thing kept aside becomes stable -/
theorem Rel0.frzF (R : Rel0 K (B.fram p o) S H σ γ) : Rel0 K B (upd S p o) H σ γ := by
  obtain ⟨φ, r⟩ := R
  obtain ⟨h1, h2, h3, h4⟩ := r.frm p o (List.mem_cons_self ..)
  have n : ((p, o) :: B.fr |>.map (·.1)).Nodup := r.frn
  rw [List.map_cons] at n
  have eS : Same S (L2.upd S p o) := Same.upd (Same.refl S) h2
  refine ⟨φ, Same.updL r.same h1, r.keep, r.muk, fun a x e => eS _ _ (r.grow a x e), fun a x e => ?_, r.len, fun i s e => (r.sl i s e).mono eS, r.phH, fun i a x e => ?_, r.phD, r.phO, fun a u hu => ?_, (List.nodup_cons.mp n).2, r.spS⟩
  · by_cases ha : a = p
    · subst ha; exact .inr h3
    · rw [upd_ne ha] at e; exact r.ext a x e
  · rw [upd_ne (fun z => by subst z; rw [h4 i] at e; cases e)]
    exact r.phS i a x e
  · obtain ⟨k1, k2, k3⟩ := r.frm a u (List.mem_cons_of_mem _ hu)
    refine ⟨k1, ?_, k3⟩
    rw [upd_ne (fun z => (List.nodup_cons.mp n).1 (by subst z; exact List.mem_map.mpr ⟨_, hu, rfl⟩))]
    exact k2
/-- a thing kept aside is changed -/
theorem Rel0.chgF {u : HO} (R : Rel0 K (B.fram p o) S H σ γ) : Rel0 K (B.fram p u) S (L2.upd H p u) σ γ := by
  obtain ⟨φ, r⟩ := R
  obtain ⟨h1, h2, h3, h4⟩ := r.frm p o (List.mem_cons_self ..)
  have n : ((p, o) :: B.fr |>.map (·.1)).Nodup := r.frn
  rw [List.map_cons] at n
  refine ⟨φ, Same.updS r.same h2, fun a x e hm => ?_, fun a ha => ?_, r.grow, r.ext, r.len, r.sl, fun i a x e => ?_, r.phS, r.phD, r.phO, fun a v hv => ?_, ?_, r.spS⟩
  · rw [upd_ne (ne_of_none e h3)]; exact r.keep a x e hm
  · obtain ⟨k1, ⟨x, k2⟩, y, k3⟩ := r.muk a ha
    exact ⟨k1, ⟨x, k2⟩, y, by rw [upd_ne (ne_of_none k2 h3)]; exact k3⟩
  · rw [upd_ne (fun z => by subst z; rw [h4 i] at e; cases e)]
    exact r.phH i a x e
  · rcases List.mem_cons.mp hv with z | z
    · cases z; exact ⟨upd_same, h2, h3, h4⟩
    · obtain ⟨k1, k2, k3⟩ := r.frm a v (List.mem_cons_of_mem _ z)
      refine ⟨?_, k2, k3⟩
      rw [upd_ne (fun w => (List.nodup_cons.mp n).1 (by subst w; exact List.mem_map.mpr ⟨_, z, rfl⟩))]
      exact k1
  · show ((p, u) :: B.fr |>.map (·.1)).Nodup
    rw [List.map_cons]
    exact n
/-- a slot is set to something that holds nothing of its own -/
theorem Rel0.set (R : Rel0 K B S H σ γ) {i : Nat} {v : V} {s : Sl} (hs : SlOk K B S H (some (some v)) s) (hn : s.may = none) : Rel0 K B S H (σ.set i (some v)) (γ.set i s) := by
  by_cases hi : i < γ.length
  case neg =>
    have hl := R.len
    rw [List.set_eq_of_length_le (l := γ) (by omega), List.set_eq_of_length_le (l := σ) (by omega)]
    exact R
  obtain ⟨φ, r⟩ := R
  have e0 : γ[i]? = some γ[i] := List.getElem?_eq_getElem hi
  have f0 : σ[i]? = some (σ[i]'(by rw [r.len]; exact hi)) := List.getElem?_eq_getElem (by rw [r.len]; exact hi)
  have em : ∀ {j a u}, (if j = i then emptyH else φ j) a = some u → j ≠ i ∧ φ j a = some u := fun {j a u} e => by
    by_cases hj : j = i
    · rw [if_pos hj] at e; cases e
    · rw [if_neg hj] at e; exact ⟨hj, e⟩
  refine ⟨fun j => if j = i then emptyH else φ j, r.same, r.keep, r.muk, r.grow, r.ext, by rw [List.length_set, List.length_set, r.len], fun j t e => ?_, fun j a u e => r.phH j a u (em e).2, fun j a u e => r.phS j a u (em e).2, fun j k a u v hjk e1 e2 => r.phD j k a u v hjk (em e1).2 (em e2).2, fun j a u e => ?_, fun q u hq => ?_, r.frn, r.spS⟩
  · rw [set_get e0] at e
    rw [set_get f0]
    by_cases hj : j = i
    · rw [if_pos hj] at e
      cases e
      rw [if_pos hj, if_pos hj]
      cases s with
      | any => trivial
      | val d => exact hs
      | scr ns => exact hs
      | own m ds => cases hn
      | ins m C fs => cases hn
      | hp m L => cases hn
    · rw [if_neg hj] at e
      rw [if_neg hj, if_neg hj]
      exact r.sl j t e
  · obtain ⟨h1, h2⟩ := em e
    rw [List.getElem?_set_ne (fun z => h1 z.symm)]
    exact r.phO j a u h2
  · obtain ⟨k1, k2, k3, k4⟩ := r.frm q u hq
    refine ⟨k1, k2, k3, fun j => ?_⟩
    show (if j = i then emptyH else φ j) q = none
    by_cases hj : j = i
    · rw [if_pos hj]; rfl
    · rw [if_neg hj]; exact k4 j
/-- what is kept aside becomes a slot's own -/
theorem Rel0.setF (R : Rel0 K (B.fram p o) S H σ γ) {i : Nat} {s : Sl} (hs : SlF K B S (upd emptyH p o) (some (some (.ref p))) s) (hm : s.may = some false) : Rel0 K B S H (σ.set i (some (.ref p))) (γ.set i s) := by
  by_cases hi : i < γ.length
  case neg =>
    have hl := R.len
    rw [List.set_eq_of_length_le (l := γ) (by omega), List.set_eq_of_length_le (l := σ) (by omega)]
    exact R.unfram.1
  obtain ⟨φ, r⟩ := R
  obtain ⟨h1, h2, h3, h4⟩ := r.frm p o (List.mem_cons_self ..)
  have n : ((p, o) :: B.fr |>.map (·.1)).Nodup := r.frn
  rw [List.map_cons] at n
  have e0 : γ[i]? = some γ[i] := List.getElem?_eq_getElem hi
  have f0 : σ[i]? = some (σ[i]'(by rw [r.len]; exact hi)) := List.getElem?_eq_getElem (by rw [r.len]; exact hi)
  have em : ∀ {j a u}, (if j = i then L2.upd emptyH p o else φ j) a = some u → (j = i ∧ a = p ∧ u = o) ∨ (j ≠ i ∧ φ j a = some u) := fun {j a u} e => by
    by_cases hj : j = i
    · rw [if_pos hj] at e
      by_cases ha : a = p
      · subst ha; rw [upd_same] at e; cases e; exact .inl ⟨hj, rfl, rfl⟩
      · rw [upd_ne ha] at e; cases e
    · rw [if_neg hj] at e; exact .inr ⟨hj, e⟩
  refine ⟨fun j => if j = i then L2.upd emptyH p o else φ j, r.same, r.keep, r.muk, r.grow, r.ext, by rw [List.length_set, List.length_set, r.len], fun j t e => ?_, fun j a u e => ?_, fun j a u e => ?_, fun j k a u v hjk e1 e2 => ?_, fun j a u e => ?_, fun q u hq => ?_, (List.nodup_cons.mp n).2, r.spS⟩
  · rw [set_get e0] at e
    rw [set_get f0]
    by_cases hj : j = i
    · rw [if_pos hj] at e
      cases e
      rw [if_pos hj, if_pos hj]
      exact hs
    · rw [if_neg hj] at e
      rw [if_neg hj, if_neg hj]
      exact r.sl j t e
  · rcases em e with ⟨_, z, z'⟩ | ⟨_, z⟩
    · subst z z'; exact h1
    · exact r.phH j a u z
  · rcases em e with ⟨_, z, z'⟩ | ⟨_, z⟩
    · subst z; exact h2
    · exact r.phS j a u z
  · rcases em e1 with ⟨z1, z2, _⟩ | ⟨z1, z2⟩
    · rcases em e2 with ⟨y1, _, _⟩ | ⟨y1, y2⟩
      · exact hjk (z1.trans y1.symm)
      · subst z2; rw [h4 k] at y2; cases y2
    · rcases em e2 with ⟨y1, y2, _⟩ | ⟨y1, y2⟩
      · subst y2; rw [h4 j] at z2; cases z2
      · exact r.phD j k a u v hjk z2 y2
  · rcases em e with ⟨z1, z2, _⟩ | ⟨z1, z2⟩
    · rw [z1, List.getElem?_set_self hi, z2]
      exact ⟨s, false, rfl, hm, .inr h3⟩
    · rw [List.getElem?_set_ne (fun z => z1 z.symm)]
      exact r.phO j a u z2
  · obtain ⟨k1, k2, k3, k4⟩ := r.frm q u (List.mem_cons_of_mem _ hq)
    refine ⟨k1, k2, k3, fun j => ?_⟩
    show (if j = i then L2.upd emptyH p o else φ j) q = none
    by_cases hj : j = i
    · rw [if_pos hj, upd_ne (fun z => (List.nodup_cons.mp n).1 (by subst z; exact List.mem_map.mpr ⟨_, hq, rfl⟩))]; rfl
    · rw [if_neg hj]; exact k4 j
/-- a slot is set to a new list of one's own -/
theorem Rel0.setOwn {xs : List V} (R : Rel0 K (B.fram p (.lst xs)) S H σ γ) {i : Nat} {ds : List D} (h : DenL S xs ds) : Rel0 K B S H (σ.set i (some (.ref p))) (γ.set i (.own false ds)) :=
  R.setF (s := .own false ds) ⟨p, xs, rfl, upd_same, h, fun z => by cases z⟩ rfl
/-- the thing at the root of slot i is changed -/
theorem RelF.chg1 (r : RelF K B S H σ γ φ) {i : Nat} {s t : Sl} {u : HO} (hg : γ[i]? = some s) (hp : φ i p = some u) (ht : SlF K B S (L2.upd emptyH p o) σ[i]? t) (hm : t.may = s.may) (ha : ∀ i a, s.at_ B i a → t.at_ B i a) : Rel0 K B S (upd H p o) σ (γ.set i t) := by
  have hS := r.phS i _ _ hp
  have hO := r.phO i _ _ hp
  have em : ∀ {j a u}, (if j = i then L2.upd emptyH p o else φ j) a = some u → (j = i ∧ a = p ∧ u = o) ∨ (j ≠ i ∧ φ j a = some u ∧ a ≠ p) := fun {j a v} e => by
    by_cases hj : j = i
    · rw [if_pos hj] at e
      by_cases ha : a = p
      · subst ha; rw [upd_same] at e; cases e; exact .inl ⟨hj, rfl, rfl⟩
      · rw [upd_ne ha] at e; cases e
    · rw [if_neg hj] at e; exact .inr ⟨hj, e, fun z => by subst z; exact r.phD j i _ _ _ hj e hp⟩
  refine ⟨fun j => if j = i then L2.upd emptyH p o else φ j, Same.updS r.same hS, fun a x e hm => ?_, fun a ha => ?_, r.grow, r.ext, by rw [List.length_set]; exact r.len, fun j t' e => ?_, fun j a v e => ?_, fun j a v e => ?_, fun j k a v w hjk e1 e2 => ?_, fun j a v e => ?_, fun q v hq => ?_, r.frn, r.spS⟩
  · rw [upd_ne (fun z => ?_)]
    · exact r.keep a x e hm
    · subst z
      obtain ⟨s', m, _, _, h | h⟩ := hO
      · exact hm (Sl.at_mem h.2)
      · rw [e] at h; cases h
  · obtain ⟨k1, k2, x, k3⟩ := r.muk a ha
    by_cases hap : a = p
    · subst hap; exact ⟨k1, k2, _, upd_same⟩
    · exact ⟨k1, k2, x, by rw [upd_ne hap]; exact k3⟩
  · rw [set_get hg] at e
    by_cases hj : j = i
    · rw [if_pos hj] at e
      cases e
      show SlF K B S (if j = i then L2.upd emptyH p o else φ j) _ _
      rw [if_pos hj, hj]
      exact ht
    · rw [if_neg hj] at e
      show SlF K B S (if j = i then L2.upd emptyH p o else φ j) _ _
      rw [if_neg hj]
      exact r.sl j t' e
  · rcases em e with ⟨_, z, z'⟩ | ⟨_, z, z'⟩
    · subst z z'; exact upd_same
    · rw [upd_ne z']; exact r.phH j a v z
  · rcases em e with ⟨_, z, z'⟩ | ⟨_, z, z'⟩
    · subst z; exact hS
    · exact r.phS j a v z
  · rcases em e1 with ⟨z1, z2, _⟩ | ⟨z1, z2, z3⟩
    · rcases em e2 with ⟨y1, _, _⟩ | ⟨y1, y2, y3⟩
      · exact hjk (z1.trans y1.symm)
      · exact y3 z2
    · rcases em e2 with ⟨y1, y2, _⟩ | ⟨y1, y2, _⟩
      · exact z3 y2
      · exact r.phD j k a v w hjk z2 y2
  · rcases em e with ⟨z1, z2, _⟩ | ⟨z1, z2, _⟩
    · rw [z1, set_get hg, if_pos rfl, z2]
      obtain ⟨s', m, e1, e2, e3⟩ := hO
      rw [hg] at e1
      cases e1
      exact ⟨t, m, rfl, hm.trans e2, e3.imp (fun z => ⟨z.1, ha _ _ z.2⟩) id⟩
    · rw [List.getElem?_set_ne (fun z => z1 z.symm)]
      exact r.phO j a v z2
  · obtain ⟨k1, k2, k3, k4⟩ := r.frm q v hq
    have nq : q ≠ p := fun z => by subst z; rw [k4 i] at hp; cases hp
    refine ⟨by rw [upd_ne nq]; exact k1, k2, k3, fun j => ?_⟩
    show (if j = i then L2.upd emptyH p o else φ j) q = none
    by_cases hj : j = i
    · rw [if_pos hj, upd_ne nq]; rfl
    · rw [if_neg hj]; exact k4 j
/-- a list of one's own is changed -/
theorem Rel0.chg (R : Rel0 K B S H σ γ) {i : Nat} {m : Bool} {xs' : List V} {ds ds' : List D} (hg : γ[i]? = some (.own m ds)) (hσ : σ[i]? = some (some (.ref p))) (hd : DenL (if m = true then B.SP else S) xs' ds') : Rel0 K B S (upd H p (.lst xs')) σ (γ.set i (.own m ds')) := by
  obtain ⟨φ, r⟩ := R
  obtain ⟨q, ys, e1, e2, e3, e4⟩ := r.sl i _ hg
  rw [hσ] at e1
  cases e1
  exact r.chg1 hg e2 ⟨p, xs', hσ, upd_same, hd, e4⟩ rfl (fun _ _ h => h)
theorem Rel0.lt (_ : Rel0 K B S H σ γ) {i : Nat} {s : Sl} (h : γ[i]? = some s) : i < γ.length := (List.getElem?_eq_some_iff.mp h).1
/-- a slot's part is let go -/
theorem RelF.let_ (r : RelF K B S H σ γ φ) {i : Nat} {s : Sl} (hs : SlOk K B S H σ[i]? s) (hn : s.may = none) : RelF K B S H σ (γ.set i s) (fun j => if j = i then emptyH else φ j) := by
  have em : ∀ {j a u}, (if j = i then emptyH else φ j) a = some u → j ≠ i ∧ φ j a = some u := fun {j a u} e => by
    by_cases hj : j = i
    · rw [if_pos hj] at e; cases e
    · rw [if_neg hj] at e; exact ⟨hj, e⟩
  refine ⟨r.same, r.keep, r.muk, r.grow, r.ext, by rw [List.length_set]; exact r.len, fun j t e => ?_, fun j a u e => r.phH j a u (em e).2, fun j a u e => r.phS j a u (em e).2, fun j k a u v hjk e1 e2 => r.phD j k a u v hjk (em e1).2 (em e2).2, fun j a u e => ?_, fun q u hq => ?_, r.frn, r.spS⟩
  · by_cases hj : j = i
    · subst hj
      by_cases hl : j < γ.length
      · rw [List.getElem?_set_self hl] at e
        cases e
        cases s with
        | any => trivial
        | val d => exact hs
        | scr ns => exact hs
        | own m ds => cases hn
        | ins m C fs => cases hn
        | hp m L => cases hn
      · rw [List.getElem?_eq_none (by rw [List.length_set]; omega)] at e
        cases e
    · rw [List.getElem?_set_ne (fun z => hj z.symm)] at e
      show SlF K B S (if j = i then emptyH else φ j) _ _
      rw [if_neg hj]
      exact r.sl j t e
  · obtain ⟨h1, h2⟩ := em e
    rw [List.getElem?_set_ne (fun z => h1 z.symm)]
    exact r.phO j a u h2
  · obtain ⟨k1, k2, k3, k4⟩ := r.frm q u hq
    refine ⟨k1, k2, k3, fun j => ?_⟩
    show (if j = i then emptyH else φ j) q = none
    by_cases hj : j = i
    · rw [if_pos hj]; rfl
    · rw [if_neg hj]; exact k4 j
/-- a slot is forgotten -/
theorem Rel0.drop (R : Rel0 K B S H σ γ) {i : Nat} : Rel0 K B S H σ (γ.set i .any) := let ⟨_, r⟩ := R; ⟨_, r.let_ (s := .any) trivial rfl⟩
/-- a slot's value is known -/
theorem Rel0.know (R : Rel0 K B S H σ γ) {i : Nat} {s : Sl} (hs : SlOk K B S H σ[i]? s) (hn : s.may = none) : Rel0 K B S H σ (γ.set i s) := let ⟨_, r⟩ := R; ⟨_, r.let_ hs hn⟩
/-- what is slot i's own, at its root, is kept aside -/
theorem RelF.take1 (r : RelF K B S H σ γ φ) {i : Nat} {s : Sl} (hg : γ[i]? = some s) (hp : φ i p = some o) (hm : s.may = some false) : Rel0 K (B.fram p o) S H σ (γ.set i .any) := by
  have r2 := r.let_ (i := i) (s := .any) trivial rfl
  have h0 : B.H0 p = none := by
    obtain ⟨s', m, e1, e2, h | h⟩ := r.phO i _ _ hp
    · rw [hg] at e1; cases e1
      rw [hm] at e2; cases e2
      exact absurd h.1 (by decide)
    · exact h
  refine ⟨_, r2.same, r2.keep, r2.muk, r2.grow, r2.ext, r2.len, r2.sl, r2.phH, r2.phS, r2.phD, r2.phO, fun q u hq => ?_, ?_, r2.spS⟩
  · rcases List.mem_cons.mp hq with z | z
    · cases z
      refine ⟨r.phH i _ _ hp, r.phS i _ _ hp, h0, fun j => ?_⟩
      show (if j = i then emptyH else φ j) p = none
      by_cases hj : j = i
      · rw [if_pos hj]; rfl
      · rw [if_neg hj]
        cases e : φ j p with
        | none => rfl
        | some v => exact (r.phD j i _ _ _ hj e hp).elim
    · exact r2.frm q u z
  · show ((p, o) :: B.fr |>.map (·.1)).Nodup
    rw [List.map_cons]
    refine List.nodup_cons.mpr ⟨fun z => ?_, r.frn⟩
    obtain ⟨⟨q, u⟩, hq, e⟩ := List.mem_map.mp z
    have e : q = p := e
    subst e
    rw [(r.frm _ _ hq).2.2.2 i] at hp
    cases hp
theorem Rel0.takeOwn (R : Rel0 K B S H σ γ) {i : Nat} {ds : List D} (hg : γ[i]? = some (.own false ds)) : ∃ p xs, σ[i]? = some (some (.ref p)) ∧ DenL S xs ds ∧ Rel0 K (B.fram p (.lst xs)) S H σ (γ.set i .any) := by
  obtain ⟨φ, r⟩ := R
  obtain ⟨q, ys, e1, e2, e3, e4⟩ := r.sl i _ hg
  exact ⟨q, ys, e1, e3, r.take1 hg e2 rfl⟩
/-- a list of one's own becomes a value -/
theorem Rel0.val (R : Rel0 K B S H σ γ) {i : Nat} {ds : List D} (hg : γ[i]? = some (.own false ds)) : ∃ S' p, σ[i]? = some (some (.ref p)) ∧ Same S S' ∧ Rel0 K B S' H σ (γ.set i (.val (.lst ds))) ∧ Den S' (.ref p) (.lst ds) := by
  obtain ⟨p, xs, e1, e2, R1⟩ := R.takeOwn hg
  have hS : Same S (upd S p (.lst xs)) := Same.upd (Same.refl S) R1.unfram.2.2.1
  have dn : Den (upd S p (.lst xs)) (.ref p) (.lst ds) := .ofL upd_same (e2.mono hS)
  have R2 := R1.frzF.know (i := i) (s := .val (.lst ds)) ⟨_, e1, dn⟩ rfl
  rw [List.set_set] at R2
  exact ⟨_, p, e1, hS, R2, dn⟩
/-- no slots -/
theorem Rel0.nil (R : Rel0 K B S H σ γ) : Rel0 K B S H [] [] := by
  obtain ⟨φ, r⟩ := R
  exact ⟨fun _ => emptyH, r.same, r.keep, r.muk, r.grow, r.ext, rfl, fun i s e => (by simp at e), fun i a o e => (by cases e), fun i a o e => (by cases e), fun i j a o u _ e => (by cases e), fun i a o e => (by cases e), fun p o hp => (let ⟨k1, k2, k3, _⟩ := r.frm p o hp; ⟨k1, k2, k3, fun _ => rfl⟩), r.frn, r.spS⟩
/-- behind a call that changes nothing that stood -/
theorem RelF.call (r : RelF K B S H σ γ φ) (C : Rel0 K ⟨H, S, [], [], emptyH⟩ S' H' [] []) : RelF K B S' H' σ γ φ := by
  have hk : ∀ a o, H a = some o → H' a = some o := fun a o e => C.keep a o e (by intro z; cases z)
  have hS : ∀ a o, H a = some o → S a = none → S' a = none := fun a o e n => by
    cases q : S' a with
    | none => rfl
    | some u =>
      rcases C.ext a u q with z | z
      · have z' : S a = some u := z
        rw [n] at z'; cases z'
      · have z' : H a = none := z
        rw [e] at z'; cases z'
  refine ⟨C.same, fun a o e hm => hk a o (r.keep a o e hm), fun a ha => ?_, fun a o e => C.grow a o (r.grow a o e), fun a o e => ?_, r.len, fun i s e => (r.sl i s e).mono C.grow, fun i a o e => hk a o (r.phH i a o e), fun i a o e => hS a o (r.phH i a o e) (r.phS i a o e), r.phD, r.phO, fun p o hp => ?_, r.frn, r.spS⟩
  · obtain ⟨h1, h2, xs, h3⟩ := r.muk a ha
    exact ⟨h1, h2, xs, hk a _ h3⟩
  · rcases C.ext a o e with z | z
    · exact r.ext a o z
    · exact .inr (r.fresh0 z)
  · obtain ⟨h1, h2, h3⟩ := r.frm p o hp
    exact ⟨hk p o h1, hS p o h1 h2, h3⟩
theorem Rel0.call (R : Rel0 K B S H σ γ) (C : Rel0 K ⟨H, S, [], [], emptyH⟩ S' H' [] []) : Rel0 K B S' H' σ γ := let ⟨_, r⟩ := R; ⟨_, r.call C⟩
/-- the same behind a call: what it has made and hands out -/
theorem Rel0.callN (R : Rel0 K B S H σ γ) (C : Rel0 K ⟨H, S, [], [], emptyH⟩ S' H' [] []) (h0 : H p = none) (h1 : H' p = some o) (h2 : S' p = none) : Rel0 K (B.fram p o) S' H' σ γ := by
  obtain ⟨φ, r⟩ := R
  have r2 := r.call C
  refine ⟨φ, r2.same, r2.keep, r2.muk, r2.grow, r2.ext, r2.len, r2.sl, r2.phH, r2.phS, r2.phD, r2.phO, fun q u hq => ?_, ?_, r2.spS⟩
  · rcases List.mem_cons.mp hq with z | z
    · cases z; exact ⟨h1, h2, r.fresh0 h0, r.freshP h0⟩
    · exact r2.frm q u z
  · show ((p, o) :: B.fr |>.map (·.1)).Nodup
    rw [List.map_cons]
    exact List.nodup_cons.mpr ⟨r.freshF h0, r.frn⟩
/-- behind a call that may change the thing at slot i's root -/
theorem RelF.call1 (r : RelF K B S H σ γ φ) {i : Nat} {s t : Sl} {u : HO} (hg : γ[i]? = some s) (hp : φ i p = some u) {SP : Hp} (C : Rel0 K ⟨H, S, [p], [], SP⟩ S' H' [] []) (k1 : S' p = none) (k2 : H' p = some o) (ht : SlF K B S' (upd emptyH p o) σ[i]? t) (hm : t.may = s.may) (ha : ∀ i a, s.at_ B i a → t.at_ B i a) : RelF K B S' H' σ (γ.set i t) (fun j => if j = i then upd emptyH p o else φ j) := by
  have hO := r.phO i _ _ hp
  have hk : ∀ a o, H a = some o → a ≠ p → H' a = some o := fun a o e n => C.keep a o e (by intro z; exact n (List.mem_singleton.mp z))
  have hS : ∀ a o, H a = some o → S a = none → S' a = none := fun a o e n => by
    cases q : S' a with
    | none => rfl
    | some u =>
      rcases C.ext a u q with z | z
      · have z' : S a = some u := z
        rw [n] at z'; cases z'
      · have z' : H a = none := z
        rw [e] at z'; cases z'
  have em : ∀ {j a v}, (if j = i then L2.upd emptyH p o else φ j) a = some v → (j = i ∧ a = p ∧ v = o) ∨ (j ≠ i ∧ φ j a = some v ∧ a ≠ p) := fun {j a v} e => by
    by_cases hj : j = i
    · rw [if_pos hj] at e
      by_cases ha : a = p
      · subst ha; rw [upd_same] at e; cases e; exact .inl ⟨hj, rfl, rfl⟩
      · rw [upd_ne ha] at e; cases e
    · rw [if_neg hj] at e; exact .inr ⟨hj, e, fun z => by subst z; exact r.phD j i _ _ _ hj e hp⟩
  refine ⟨C.same, fun a x e hm => ?_, fun a ha => ?_, fun a x e => C.grow a x (r.grow a x e), fun a x e => ?_, by rw [List.length_set]; exact r.len, fun j t' e => ?_, fun j a v e => ?_, fun j a v e => ?_, fun j k a v w hjk e1 e2 => ?_, fun j a v e => ?_, fun q v hq => ?_, r.frn, r.spS⟩
  · refine hk a x (r.keep a x e hm) fun z => ?_
    subst z
    obtain ⟨s', m, _, _, h | h⟩ := hO
    · exact hm (Sl.at_mem h.2)
    · rw [e] at h; cases h
  · obtain ⟨f1, f2, x, f3⟩ := r.muk a ha
    by_cases hap : a = p
    · subst hap; exact ⟨f1, f2, _, k2⟩
    · exact ⟨f1, f2, x, hk a _ f3 hap⟩
  · rcases C.ext a x e with z | z
    · exact r.ext a x z
    · exact .inr (r.fresh0 z)
  · rw [set_get hg] at e
    by_cases hj : j = i
    · rw [if_pos hj] at e
      cases e
      show SlF K B S' (if j = i then L2.upd emptyH p o else φ j) _ _
      rw [if_pos hj, hj]
      exact ht
    · rw [if_neg hj] at e
      show SlF K B S' (if j = i then L2.upd emptyH p o else φ j) _ _
      rw [if_neg hj]
      exact (r.sl j t' e).mono C.grow
  · rcases em e with ⟨_, z, z'⟩ | ⟨_, z, z'⟩
    · subst z z'; exact k2
    · exact hk a v (r.phH j a v z) z'
  · rcases em e with ⟨_, z, z'⟩ | ⟨_, z, z'⟩
    · subst z; exact k1
    · exact hS a v (r.phH j a v z) (r.phS j a v z)
  · rcases em e1 with ⟨z1, z2, _⟩ | ⟨z1, z2, z3⟩
    · rcases em e2 with ⟨y1, _, _⟩ | ⟨y1, y2, y3⟩
      · exact hjk (z1.trans y1.symm)
      · exact y3 z2
    · rcases em e2 with ⟨y1, y2, _⟩ | ⟨y1, y2, _⟩
      · exact z3 y2
      · exact r.phD j k a v w hjk z2 y2
  · rcases em e with ⟨z1, z2, _⟩ | ⟨z1, z2, _⟩
    · rw [z1, set_get hg, if_pos rfl, z2]
      obtain ⟨s', m, e1, e2, e3⟩ := hO
      rw [hg] at e1
      cases e1
      exact ⟨t, m, rfl, hm.trans e2, e3.imp (fun z => ⟨z.1, ha _ _ z.2⟩) id⟩
    · rw [List.getElem?_set_ne (fun z => z1 z.symm)]
      exact r.phO j a v z2
  · obtain ⟨f1, f2, f3, f4⟩ := r.frm q v hq
    have nq : q ≠ p := fun z => by subst z; rw [f4 i] at hp; cases hp
    refine ⟨hk q v f1 nq, hS q v f1 f2, f3, fun j => ?_⟩
    show (if j = i then L2.upd emptyH p o else φ j) q = none
    by_cases hj : j = i
    · rw [if_pos hj, upd_ne nq]; rfl
    · rw [if_neg hj]; exact f4 j
theorem Rel0.callP {i : Nat} {m : Bool} {pl pl' : List D} {xs' : List V} (R : Rel0 K B S H σ γ) (hg : γ[i]? = some (.own m pl)) (hσ : σ[i]? = some (some (.ref p))) {SP : Hp} (C : Rel0 K ⟨H, S, [p], [], SP⟩ S' H' [] []) (k1 : S' p = none) (k2 : H' p = some (.lst xs')) (k3 : DenL (if m = true then B.SP else S') xs' pl') : Rel0 K B S' H' σ (γ.set i (.own m pl')) := by
  obtain ⟨φ, r⟩ := R
  obtain ⟨q, ys, e1, e2, e3, e4⟩ := r.sl i _ hg
  rw [hσ] at e1
  cases e1
  exact ⟨_, r.call1 hg e2 C k1 k2 ⟨p, xs', hσ, upd_same, k3, e4⟩ rfl (fun _ _ h => h)⟩
/-- a thing that such a call has made, kept aside -/
theorem Rel0.callPN {i : Nat} {m : Bool} {a : Addr} {pl pl' : List D} {xs' : List V} (R : Rel0 K B S H σ γ) (hg : γ[i]? = some (.own m pl)) (hσ : σ[i]? = some (some (.ref p))) {SP : Hp} (C : Rel0 K ⟨H, S, [p], [], SP⟩ S' H' [] []) (k1 : S' p = none) (k2 : H' p = some (.lst xs')) (k3 : DenL (if m = true then B.SP else S') xs' pl') (l2 : H a = none) (l3 : H' a = some o) (l1 : S' a = none) : Rel0 K (B.fram a o) S' H' σ (γ.set i (.own m pl')) := by
  obtain ⟨φ, r⟩ := R
  obtain ⟨q, ys, e1, e2, e3, e4⟩ := r.sl i _ hg
  rw [hσ] at e1
  cases e1
  have r2 := r.call1 (t := .own m pl') hg e2 C k1 k2 ⟨p, xs', hσ, upd_same, k3, e4⟩ rfl (fun _ _ h => h)
  have na : a ≠ p := (ne_of_none (r.phH i _ _ e2) l2).symm
  refine ⟨_, r2.same, r2.keep, r2.muk, r2.grow, r2.ext, r2.len, r2.sl, r2.phH, r2.phS, r2.phD, r2.phO, fun q u hq => ?_, ?_, r2.spS⟩
  · rcases List.mem_cons.mp hq with z | z
    · cases z
      refine ⟨l3, l1, r.fresh0 l2, fun j => ?_⟩
      show (if j = i then L2.upd emptyH p _ else φ j) a = none
      by_cases hj : j = i
      · rw [if_pos hj, upd_ne na]; rfl
      · rw [if_neg hj]; exact r.freshP l2 j
    · exact r2.frm q u z
  · show ((a, o) :: B.fr |>.map (·.1)).Nodup
    rw [List.map_cons]
    exact List.nodup_cons.mpr ⟨r.freshF l2, r.frn⟩
end
end DL
set_option Elab.async false
set_option linter.all false
set_option autoImplicit false
set_option maxRecDepth 100000
set_option maxHeartbeats 4000000
/-! DL1b: the relation with what is wanted of an exception. -/
namespace DL
open PySem PySem.Spec PyProof.Rows L2

/-- a context with what is wanted of an exception that leaves the code: over the heap (W), over data (dX: the class, the fields) -/
structure Xb where
  c : Cx
  W : WX := fun _ _ _ _ => False
  dX : Addr → List (Str × D) → List Sl → Prop := fun _ _ _ => False
instance : CoeOut Xb Cx := ⟨Xb.c⟩
namespace Xb
abbrev prog (X : Xb) := X.c.prog
abbrev w (X : Xb) := X.c.w
abbrev K (X : Xb) := X.c.K
abbrev mg (X : Xb) := X.c.mg
abbrev base (X : Xb) := X.c.base
abbrev A (X : Xb) := X.c.A
abbrev N (X : Xb) := X.c.N
abbrev s_0 (X : Xb) := X.c.s_0
abbrev H_0 (X : Xb) := X.c.H_0
abbrev env (X : Xb) := X.c.env
abbrev outer (X : Xb) := X.c.outer
abbrev stack (X : Xb) := X.c.stack
abbrev ex (X : Xb) := X.c.ex
abbrev fn (X : Xb) := X.c.fn
abbrev calm (X : Xb) := X.c.calm
abbrev pn (X : Xb) := X.c.pn
abbrev xe (X : Xb) := X.c.xe
abbrev fs (X : Xb) := X.c.fs
/-- nothing may be raised -/
abbrev noX (X : Xb) : Xb := ⟨X.c, X.W, fun _ _ _ => False⟩
end Xb
/-- the fields of an exception -/
def ExD (S : Hp) (d : Option Addr) (fs : List (Str × D)) : Prop := (d = none ∧ fs = []) ∨ ∃ dd ws, d = some dd ∧ S dd = some (.xd ws) ∧ ∀ f x, fs.lookup f = some x → ∃ v, ws.lookup f = some v ∧ Den S v x
theorem ExD.mono {S S' : Hp} {d : Option Addr} {fs : List (Str × D)} (h : ExD S d fs) (e : Same S S') : ExD S' d fs := by
  rcases h with h | ⟨dd, ws, h1, h2, h3⟩
  · exact .inl h
  · exact .inr ⟨dd, ws, h1, e _ _ h2, fun f x hx => let ⟨v, h4, h5⟩ := h3 f x hx; ⟨v, h4, h5.mono e⟩⟩
/-- the entry without what is kept aside -/
def Bs.core (B : Bs) : Bs := { B with fr := [] }
def XLk (X : Xb) (B : Bs) (S : Hp) : Prop := ∀ S' H' σ' γ' C fs d, Same S S' → Rel0 X.K B.core S' H' σ' γ' → ExD S' d fs → X.dX C fs γ' → X.W (.ref C) d σ' H'
structure Rel (X : Xb) (B : Bs) (S H : Hp) (σ : L2.St) (γ : List Sl) : Prop where
  r : Rel0 X.K B S H σ γ
  x : XLk X B S
section
variable {X : Xb} {B : Bs} {S S' H H' : Hp} {σ : L2.St} {γ : List Sl} {p : Addr} {o : HO}
theorem XLk.mono (h : XLk X B S) (e : Same S S') : XLk X B S' := fun S1 H' σ' γ' C fs d e1 => h S1 H' σ' γ' C fs d (e.trans e1)
theorem XLk.no {X : Xb} : XLk X.noX B S := fun _ _ _ _ _ _ _ _ _ _ h => h.elim
theorem Rel0.no {X : Xb} (R : Rel0 X.K B S H σ γ) : Rel X.noX B S H σ γ := ⟨R, .no⟩
theorem Rel0.core {K : PySem.W.Frag} (R : Rel0 K B S H σ γ) : Rel0 K B.core S H σ γ := by
  obtain ⟨φ, r⟩ := R
  exact ⟨φ, r.same, r.keep, r.muk, r.grow, r.ext, r.len, r.sl, r.phH, r.phS, r.phD, r.phO, fun q u hq => (by cases hq), List.nodup_nil, r.spS⟩
theorem Rel.with (R : Rel X B S H σ γ) {S' H' : Hp} {σ' : L2.St} {γ' : List Sl} (r : Rel0 X.K B S' H' σ' γ') (e : Same S S') : Rel X B S' H' σ' γ' := ⟨r, R.x.mono e⟩
theorem Rel.same (R : Rel X B S H σ γ) : Same S H := R.r.same
theorem Rel.keep (R : Rel X B S H σ γ) : ∀ a o, B.H0 a = some o → a ∉ B.mu → H a = some o := R.r.keep
theorem Rel.muk (R : Rel X B S H σ γ) : ∀ a, a ∈ B.mu → B.S0 a = none ∧ (∃ o, B.H0 a = some o) ∧ ∃ o, H a = some o := R.r.muk
theorem Rel.grow (R : Rel X B S H σ γ) : Same B.S0 S := R.r.grow
theorem Rel.ext (R : Rel X B S H σ γ) : ∀ a o, S a = some o → B.S0 a = some o ∨ B.H0 a = none := R.r.ext
theorem Rel.len (R : Rel X B S H σ γ) : σ.length = γ.length := R.r.len
theorem Rel.sl (R : Rel X B S H σ γ) (i : Nat) (s : Sl) (h : γ[i]? = some s) : SlOk X.K B S H σ[i]? s := R.r.sl i s h
theorem Rel.fresh0 (R : Rel X B S H σ γ) (h : H p = none) : B.H0 p = none := R.r.fresh0 h
theorem Rel.freshS (R : Rel X B S H σ γ) (h : H p = none) : S p = none := R.r.freshS h
theorem Rel.new (R : Rel X B S H σ γ) (h : H p = none) : Rel X B (upd S p o) (upd H p o) σ γ := ⟨R.r.new h, R.x.mono (Same.upd (Same.refl S) (R.r.freshS h))⟩
theorem Rel.newF (R : Rel X B S H σ γ) (h : H p = none) : Rel X (B.fram p o) S (upd H p o) σ γ := ⟨R.r.newF h, R.x⟩
theorem Rel.unfram (R : Rel X (B.fram p o) S H σ γ) : Rel X B S H σ γ ∧ H p = some o ∧ S p = none ∧ B.H0 p = none := ⟨⟨R.r.unfram.1, R.x⟩, R.r.unfram.2⟩
theorem Rel.frzF (R : Rel X (B.fram p o) S H σ γ) : Rel X B (upd S p o) H σ γ := ⟨R.r.frzF, XLk.mono (B := B) R.x (Same.upd (Same.refl S) R.r.unfram.2.2.1)⟩
theorem Rel.chgF {u : HO} (R : Rel X (B.fram p o) S H σ γ) : Rel X (B.fram p u) S (L2.upd H p u) σ γ := ⟨R.r.chgF, R.x⟩
theorem Rel.set (R : Rel X B S H σ γ) {i : Nat} {v : V} {s : Sl} (hs : SlOk X.K B S H (some (some v)) s) (hn : s.may = none) : Rel X B S H (σ.set i (some v)) (γ.set i s) := ⟨R.r.set hs hn, R.x⟩
theorem Rel.setF (R : Rel X (B.fram p o) S H σ γ) {i : Nat} {s : Sl} (hs : SlF X.K B S (upd emptyH p o) (some (some (.ref p))) s) (hm : s.may = some false) : Rel X B S H (σ.set i (some (.ref p))) (γ.set i s) := ⟨R.r.setF hs hm, R.x⟩
theorem Rel.setOwn {xs : List V} (R : Rel X (B.fram p (.lst xs)) S H σ γ) {i : Nat} {ds : List D} (h : DenL S xs ds) : Rel X B S H (σ.set i (some (.ref p))) (γ.set i (.own false ds)) := ⟨R.r.setOwn h, R.x⟩
theorem Rel.chg (R : Rel X B S H σ γ) {i : Nat} {m : Bool} {xs' : List V} {ds ds' : List D} (hg : γ[i]? = some (.own m ds)) (hσ : σ[i]? = some (some (.ref p))) (hd : DenL (if m = true then B.SP else S) xs' ds') : Rel X B S (upd H p (.lst xs')) σ (γ.set i (.own m ds')) := ⟨R.r.chg hg hσ hd, R.x⟩
theorem Rel.lt (_ : Rel X B S H σ γ) {i : Nat} {s : Sl} (h : γ[i]? = some s) : i < γ.length := (List.getElem?_eq_some_iff.mp h).1
theorem Rel.drop (R : Rel X B S H σ γ) {i : Nat} : Rel X B S H σ (γ.set i .any) := ⟨R.r.drop, R.x⟩
theorem Rel.know (R : Rel X B S H σ γ) {i : Nat} {s : Sl} (hs : SlOk X.K B S H σ[i]? s) (hn : s.may = none) : Rel X B S H σ (γ.set i s) := ⟨R.r.know hs hn, R.x⟩
theorem Rel.takeOwn (R : Rel X B S H σ γ) {i : Nat} {ds : List D} (hg : γ[i]? = some (.own false ds)) : ∃ p xs, σ[i]? = some (some (.ref p)) ∧ DenL S xs ds ∧ Rel X (B.fram p (.lst xs)) S H σ (γ.set i .any) :=
  let ⟨p, xs, h1, h2, h3⟩ := R.r.takeOwn hg; ⟨p, xs, h1, h2, h3, R.x⟩
theorem Rel.val (R : Rel X B S H σ γ) {i : Nat} {ds : List D} (hg : γ[i]? = some (.own false ds)) : ∃ S' p, σ[i]? = some (some (.ref p)) ∧ Same S S' ∧ Rel X B S' H σ (γ.set i (.val (.lst ds))) ∧ Den S' (.ref p) (.lst ds) :=
  let ⟨S', p, h1, h2, h3, h4⟩ := R.r.val hg; ⟨S', p, h1, h2, ⟨h3, R.x.mono h2⟩, h4⟩
theorem Rel.nil (R : Rel X B S H σ γ) : Rel0 X.K B S H [] [] := R.r.nil
theorem Rel.call (R : Rel X B S H σ γ) (C : Rel0 X.K ⟨H, S, [], [], emptyH⟩ S' H' [] []) : Rel X B S' H' σ γ := ⟨R.r.call C, R.x.mono C.grow⟩
theorem Rel.callN (R : Rel X B S H σ γ) (C : Rel0 X.K ⟨H, S, [], [], emptyH⟩ S' H' [] []) (h0 : H p = none) (h1 : H' p = some o) (h2 : S' p = none) : Rel X (B.fram p o) S' H' σ γ := ⟨R.r.callN C h0 h1 h2, XLk.mono (B := B) R.x C.grow⟩
theorem Rel.callP {i : Nat} {m : Bool} {pl pl' : List D} {xs' : List V} (R : Rel X B S H σ γ) (hg : γ[i]? = some (.own m pl)) (hσ : σ[i]? = some (some (.ref p))) {SP : Hp} (C : Rel0 X.K ⟨H, S, [p], [], SP⟩ S' H' [] []) (k1 : S' p = none) (k2 : H' p = some (.lst xs')) (k3 : DenL (if m = true then B.SP else S') xs' pl') : Rel X B S' H' σ (γ.set i (.own m pl')) := ⟨R.r.callP hg hσ C k1 k2 k3, R.x.mono C.grow⟩
theorem Rel.callPN {i : Nat} {m : Bool} {a : Addr} {pl pl' : List D} {xs' : List V} (R : Rel X B S H σ γ) (hg : γ[i]? = some (.own m pl)) (hσ : σ[i]? = some (some (.ref p))) {SP : Hp} (C : Rel0 X.K ⟨H, S, [p], [], SP⟩ S' H' [] []) (k1 : S' p = none) (k2 : H' p = some (.lst xs')) (k3 : DenL (if m = true then B.SP else S') xs' pl') (l2 : H a = none) (l3 : H' a = some o) (l1 : S' a = none) : Rel X (B.fram a o) S' H' σ (γ.set i (.own m pl')) := ⟨R.r.callPN hg hσ C k1 k2 k3 l2 l3 l1, XLk.mono (B := B) R.x C.grow⟩
end
end DL
namespace DL
open PySem PySem.Spec PyProof.Rows L2
abbrev Xb.blk (X : Xb) (s : Shared) (H : Hp) (scope : Scope) (env : Env) (fp : List Addr) : Xb := ⟨X.c.blk s H scope env fp, X.W, X.dX⟩
section
variable {X : Xb} {s : Shared} {H0 : Hp} {sc : Scope} {env : Env} {fp : List Addr} {B : Bs} {S H : Hp} {σ : L2.St} {γ : List Sl}
theorem Rel.toBlk (R : Rel X B S H σ γ) : Rel (X.blk s H0 sc env fp) B S H σ γ := ⟨R.r, R.x⟩
theorem Rel.ofBlk (R : Rel (X.blk s H0 sc env fp) B S H σ γ) : Rel X B S H σ γ := ⟨R.r, R.x⟩
end
end DL
namespace DL
open PySem PySem.Spec PyProof.Rows L2
/-- a context of code that raises nothing -/
abbrev Xb.of (c : Cx) : Xb := ⟨c, fun _ _ _ _ => False, fun _ _ _ => False⟩
theorem Rel0.of {c : Cx} {B : Bs} {S H : Hp} {σ : L2.St} {γ : List Sl} (R : Rel0 c.K B S H σ γ) : Rel (Xb.of c) B S H σ γ := ⟨R, fun _ _ _ _ _ _ _ _ _ _ h => h.elim⟩
end DL
set_option Elab.async false
set_option linter.all false
set_option autoImplicit false
set_option maxRecDepth 100000
set_option maxHeartbeats 4000000
/-! DL2: judgements over the data: expressions, tests, arguments, iterators, targets, statements. -/
namespace DL
open PySem PySem.Spec PyProof.Rows L2

abbrev WE := List Sl → (D → List Sl → Prop) → Prop
abbrev WF := List Sl → (List D → List Sl → Prop) → Prop
abbrev WT := List Sl → (Bool → List Sl → Prop) → Prop
abbrev WA := List Sl → (List D → List Sl → Prop) → Prop
abbrev WO := List Sl → (Option Int → List Sl → Prop) → Prop
/-- monotone -/
def Mo {α : Type} (w : List Sl → (α → List Sl → Prop) → Prop) : Prop := ∀ γ (P P' : α → List Sl → Prop), (∀ d γ', P d γ' → P' d γ') → w γ P → w γ P'

structure SE (X : Xb) (t : TE) (w : WE) : Prop where
  mono : Mo w
  run : ∀ B S H σ γ (Q : VK), Rel X B S H σ γ → w γ (fun d γ' => ∀ v S' H', Rel X B S' H' σ γ' → Same S S' → Den S' v d → Q v H') → t σ H Q
/-- a new list -/
structure SF (X : Xb) (t : TE) (w : WF) : Prop where
  mono : Mo w
  run : ∀ B S H σ γ (Q : VK), Rel X B S H σ γ → w γ (fun ds γ' => ∀ p xs S' H', Rel X (B.fram p (.lst xs)) S' H' σ γ' → Same S S' → DenL S' xs ds → Q (.ref p) H') → t σ H Q
structure ST (X : Xb) (t : TT) (w : WT) : Prop where
  mono : Mo w
  run : ∀ B S H σ γ (Q : Bool → Hp → Prop), Rel X B S H σ γ → w γ (fun b γ' => ∀ S' H', Rel X B S' H' σ γ' → Same S S' → Q b H') → t σ H Q
structure SA (X : Xb) (t : TA) (w : WA) : Prop where
  mono : Mo w
  run : ∀ B S H σ γ (Q : List V → Hp → Prop), Rel X B S H σ γ → w γ (fun ds γ' => ∀ vs S' H', Rel X B S' H' σ γ' → Same S S' → DenL S' vs ds → Q vs H') → t σ H Q
structure SO (X : Xb) (t : TO) (w : WO) : Prop where
  mono : Mo w
  run : ∀ B S H σ γ (Q : Option Int → Hp → Prop), Rel X B S H σ γ → w γ (fun o γ' => ∀ S' H', Rel X B S' H' σ γ' → Same S S' → Q o H') → t σ H Q

structure DE (X : Xb) (e : Expr) (t : TE) (w : WE) : Prop where
  pe : PE X e t
  se : SE X t w
structure DF (X : Xb) (e : Expr) (t : TE) (w : WF) : Prop where
  pe : PE X e t
  sf : SF X t w
structure DT (X : Xb) (e : Expr) (t : TT) (w : WT) : Prop where
  pt : PT X e t
  st : ST X t w
/-- and, or within tests -/
structure DW (X : Xb) (e : Expr) (t : TT) (w : WT) : Prop where
  pw : PW X e t
  st : ST X t w
structure DA (X : Xb) (es : List Expr) (t : TA) (w : WA) : Prop where
  pa : PA X es t
  sa : SA X t w
structure DO (X : Xb) (e : Option Expr) (t : TO) (w : WO) : Prop where
  po : PO X e t
  so : SO X t w

section
variable {X : Xb} {K : PySem.W.Frag} {a b c e : Expr} {ta tb tc te : TE} {wa wb wc we : WE} {pos : Pos}
theorem DW.dt {t : TT} {w : WT} (h : DW X e t w) : DT X e t w := ⟨h.pw.pt, h.st⟩

/-! ### names, constants -/
def dVar (i : Nat) : WE := fun γ Q => (∃ d, γ[i]? = some (.val d) ∧ Q d γ) ∨ (∃ ds, γ[i]? = some (.own false ds) ∧ Q (.lst ds) (γ.set i (.val (.lst ds))))
theorem se_var {i : Nat} : SE X (tVar i) (dVar i) := by
  refine ⟨fun γ P P' h q => ?_, fun B S H σ γ Q R h => ?_⟩
  · rcases q with ⟨d, e, q⟩ | ⟨ds, e, q⟩
    · exact .inl ⟨d, e, h _ _ q⟩
    · exact .inr ⟨ds, e, h _ _ q⟩
  · rcases h with ⟨d, e, q⟩ | ⟨ds, e, q⟩
    · obtain ⟨v, e1, e2⟩ := R.sl i _ e
      exact ⟨v, e1, q v S H R (Same.refl S) e2⟩
    · obtain ⟨S', p, e1, e2, R', dn⟩ := R.val e
      exact ⟨.ref p, e1, q _ S' H R' e2 dn⟩
theorem de_var (i : Nat) {x : Str} (hN : X.N[i]? = some x := by rfl) (hv : Vis X.env.scope x := by first | exact Or.inl rfl | exact Or.inr (Or.inl rfl) | exact Or.inr (Or.inr rfl)) (hd : (x == ("__debug__" : Str)) = false := by decide)
    (hcd : (x == ("__classdict__" : Str)) = false := by decide) : DE X (.Name x pos) (tVar i) (dVar i) := ⟨pe_var hN hv hd hcd, se_var⟩
def dC (d : D) : WE := fun γ Q => Q d γ
theorem se_c {v : V} {d : D} (h : ∀ S, Den S v d) : SE X (tC v) (dC d) := ⟨fun γ P P' h q => h _ _ q, fun B S H σ γ Q R q => q v S H R (Same.refl S) (h S)⟩
theorem de_int {i : Int} {j} : DE X (.Constant (.int i) j pos) (tC (.int i)) (dC (.int i)) := ⟨pe_int, se_c fun _ => .int i⟩
theorem de_bl {i : Bool} {j} : DE X (.Constant (.bool i) j pos) (tC (.bl i)) (dC (.bl i)) := ⟨pe_bl, se_c fun _ => .bl i⟩
theorem de_non {j} : DE X (.Constant .none j pos) (tC .non) (dC .non) := ⟨pe_non, se_c fun _ => .non⟩
theorem de_str {x : Str} {j} : DE X (.Constant (.str x) j pos) (tC (.str x)) (dC (.str x)) := ⟨pe_str, se_c fun _ => .str x⟩
/-- a new list taken as a value -/
def dV (w : WF) : WE := fun γ Q => w γ fun ds γ' => Q (.lst ds) γ'
theorem se_of {t : TE} {w : WF} (h : SF X t w) : SE X t (dV w) := by
  refine ⟨fun γ P P' k q => h.mono γ _ _ (fun d γ' x => k _ _ x) q, fun B S H σ γ Q R q => ?_⟩
  refine h.run B S H σ γ Q R (h.mono γ _ _ (fun ds γ' k p xs S' H' R' e e4 => ?_) q)
  have e6 : Same S' (upd S' p (.lst xs)) := Same.upd (Same.refl S') R'.unfram.2.2.1
  exact k (.ref p) (upd S' p (.lst xs)) H' R'.frzF (e.trans e6) (.ofL upd_same (e4.mono e6))
theorem DF.v {t : TE} {w : WF} (h : DF X e t w) : DE X e t (dV w) := ⟨h.pe, se_of h.sf⟩

/-! ### operators -/
/-- an operation's rule by values and what it is on data -/
structure OpS (r : R2) (f : D → D → (D → Prop) → Prop) : Prop where
  mono : ∀ x y (P P' : D → Prop), (∀ d, P d → P' d) → f x y P → f x y P'
  run : ∀ X B S H σ γ (Q : VK) v u x y, Rel X B S H σ γ → Den S v x → Den S u y → f x y (fun d => ∀ z S' H', Rel X B S' H' σ γ → Same S S' → Den S' z d → Q z H') → r v u H Q
def dOp (f : D → D → (D → Prop) → Prop) (wa wb : WE) : WE := fun γ Q => wa γ fun x γ1 => wb γ1 fun y γ2 => f x y fun d => Q d γ2
theorem se_op {r : R2} {f : D → D → (D → Prop) → Prop} (ho : OpS r f) (ha : SE X ta wa) (hb : SE X tb wb) : SE X (tOp r ta tb) (dOp f wa wb) := by
  refine ⟨fun γ P P' k q => ha.mono γ _ _ (fun x γ1 q => hb.mono γ1 _ _ (fun y γ2 q => ho.mono x y _ _ (fun d q => k _ _ q) q) q) q, fun B S H σ γ Q R q => ?_⟩
  refine ha.run B S H σ γ _ R (ha.mono γ _ _ (fun x γ1 q v S1 H1 R1 e1 d1 => ?_) q)
  refine hb.run B S1 H1 σ γ1 _ R1 (hb.mono γ1 _ _ (fun y γ2 q u S2 H2 R2 e2 d2 => ?_) q)
  exact ho.run X B S2 H2 σ γ2 Q v u x y R2 (d1.mono e2) d2 (ho.mono _ _ _ _ (fun d q z S' H' R' e d' => q z S' H' R' ((e1.trans e2).trans e) d') q)
theorem de_op {op : Operator} {r : R2} {f : D → D → (D → Prop) → Prop} (h : OpR X (binaryOp op) r) (ho : OpS r f) (ha : DE X a ta wa) (hb : DE X b tb wb) : DE X (.BinOp a op b pos) (tOp r ta tb) (dOp f wa wb) := ⟨pe_op h ha.pe hb.pe, se_op ho ha.se hb.se⟩
theorem de_cmp {op : CmpOp} {r : R2} {f : D → D → (D → Prop) → Prop} (h : OpR X (compareOp op) r) (ho : OpS r f) (ha : DE X a ta wa) (hb : DE X b tb wb) (hm : behindInMarks op b = false) : DE X (.Compare a [op] [b] pos) (tOp r ta tb) (dOp f wa wb) := ⟨pe_cmpR h ha.pe hb.pe hm, se_op ho ha.se hb.se⟩
/-- ints to a datum, under a condition -/
def dI (C : Int → Int → Prop) (g : Int → Int → D) (x y : D) (Q : D → Prop) : Prop := ∃ i j, x = .int i ∧ y = .int j ∧ C i j ∧ Q (g i j)
def dI0 (g : Int → Int → D) (x y : D) (Q : D → Prop) : Prop := ∃ i j, x = .int i ∧ y = .int j ∧ Q (g i j)
theorem ops_I {C : Int → Int → Prop} {g : Int → Int → V} {h : Int → Int → D} (e : ∀ S i j, Den S (g i j) (h i j)) : OpS (rI C g) (dI C h) := by
  refine ⟨fun x y P P' k q => ?_, fun X B S H σ γ Q v u x y R d1 d2 q => ?_⟩
  · obtain ⟨i, j, e1, e2, c, q⟩ := q
    exact ⟨i, j, e1, e2, c, k _ q⟩
  · obtain ⟨i, j, e1, e2, c, q⟩ := q
    subst e1; subst e2
    cases d1; cases d2
    exact ⟨i, j, rfl, rfl, c, q _ S H R (Same.refl S) (e S i j)⟩
theorem ops_I0 {g : Int → Int → V} {h : Int → Int → D} (e : ∀ S i j, Den S (g i j) (h i j)) : OpS (rI0 g) (dI0 h) := by
  refine ⟨fun x y P P' k q => ?_, fun X B S H σ γ Q v u x y R d1 d2 q => ?_⟩
  · obtain ⟨i, j, e1, e2, q⟩ := q
    exact ⟨i, j, e1, e2, k _ q⟩
  · obtain ⟨i, j, e1, e2, q⟩ := q
    subst e1; subst e2
    cases d1; cases d2
    exact ⟨i, j, rfl, rfl, q _ S H R (Same.refl S) (e S i j)⟩
abbrev dAdd := dOp (dI0 fun i j => .int (i + j))
abbrev dSub := dOp (dI0 fun i j => .int (i - j))
abbrev dMul := dOp (dI CMul fun i j => .int (i * j))
abbrev dMulW := dOp (dI CMulW fun i j => .int (i * j))
abbrev dFdv := dOp (dI CDivW fun i j => .int (i / j))
abbrev dMod := dOp (dI (fun _ j => 0 < j) fun i j => .int (i % j))
abbrev dPow := dOp (dI CPow fun i j => .int (i ^ j.toNat))
abbrev dLt := dOp (dI0 fun i j => .bl (decide (i < j)))
abbrev dLe := dOp (dI0 fun i j => .bl (decide (i ≤ j)))
abbrev dGt := dOp (dI0 fun i j => .bl (decide (j < i)))
abbrev dGe := dOp (dI0 fun i j => .bl (decide (j ≤ i)))
theorem de_add (ha : DE X a ta wa) (hb : DE X b tb wb) : DE X (.BinOp a .Add b pos) (tOp (rI0 fun i j => .int (i + j)) ta tb) (dAdd wa wb) := de_op op_add (ops_I0 fun _ _ _ => .int _) ha hb
theorem de_sub (ha : DE X a ta wa) (hb : DE X b tb wb) : DE X (.BinOp a .Sub b pos) (tOp (rI0 fun i j => .int (i - j)) ta tb) (dSub wa wb) := de_op op_sub (ops_I0 fun _ _ _ => .int _) ha hb
theorem de_fdv (ha : DE X a ta wa) (hb : DE X b tb wb) : DE X (.BinOp a .FloorDiv b pos) (tOp (rI CDivW fun i j => .int (i / j)) ta tb) (dFdv wa wb) := de_op op_fdivW (ops_I fun _ _ _ => .int _) ha hb
theorem de_mod (ha : DE X a ta wa) (hb : DE X b tb wb) : DE X (.BinOp a .Mod b pos) (tOp (rI (fun _ j => 0 < j) fun i j => .int (i % j)) ta tb) (dMod wa wb) := de_op op_mod (ops_I fun _ _ _ => .int _) ha hb
theorem de_pow (ha : DE X a ta wa) (hb : DE X b tb wb) : DE X (.BinOp a .Pow b pos) (tOp (rI CPow fun i j => .int (i ^ j.toNat)) ta tb) (dPow wa wb) := de_op op_pow (ops_I fun _ _ _ => .int _) ha hb
/-- == of scalars: None, bools, ints, texts -/
def scalD : D → Option V
  | .non => some .non | .bl b => some (.bl b) | .int i => some (.int i) | .str s => some (.str s) | _ => none
theorem scalD_den {S : Hp} {d : D} {v u : V} (h : Den S v d) (e : scalD d = some u) : v = u := by
  cases h <;> first | (cases e; rfl) | cases e
def dSc (neg : Bool) (x y : D) (Q : D → Prop) : Prop := ∃ v u, scalD x = some v ∧ scalD y = some u ∧ scal v u = true ∧ Q (.bl (if neg then !decide (v = u) else decide (v = u)))
theorem ops_eq : OpS rEq (dSc false) := by
  refine ⟨fun x y P P' k q => ?_, fun X B S H σ γ Q v u x y R d1 d2 q => ?_⟩
  · obtain ⟨i, j, e1, e2, c, q⟩ := q
    exact ⟨i, j, e1, e2, c, k _ q⟩
  · obtain ⟨i, j, e1, e2, c, q⟩ := q
    rw [scalD_den d1 e1, scalD_den d2 e2]
    exact ⟨c, q _ S H R (Same.refl S) (.bl _)⟩
theorem ops_ne : OpS rNe (dSc true) := by
  refine ⟨fun x y P P' k q => ?_, fun X B S H σ γ Q v u x y R d1 d2 q => ?_⟩
  · obtain ⟨i, j, e1, e2, c, q⟩ := q
    exact ⟨i, j, e1, e2, c, k _ q⟩
  · obtain ⟨i, j, e1, e2, c, q⟩ := q
    rw [scalD_den d1 e1, scalD_den d2 e2]
    exact ⟨c, q _ S H R (Same.refl S) (.bl _)⟩
abbrev dEq := dOp (dSc false)
abbrev dNe := dOp (dSc true)
theorem de_eq (ha : DE X a ta wa) (hb : DE X b tb wb) : DE X (.Compare a [.Eq] [b] pos) (tOp rEq ta tb) (dEq wa wb) := de_cmp op_eq ops_eq ha hb (nomark _)
/-- is None, is not None -/
def dIsN (neg : Bool) (x y : D) (Q : D → Prop) : Prop := y = .non ∧ Q (.bl (match x with | .non => !neg | _ => neg))
theorem ops_isN : OpS (fun x y H Q => y = .non ∧ Q (.bl (decide (x = .non))) H) (dIsN false) := by
  refine ⟨fun x y P P' k q => ⟨q.1, k _ q.2⟩, fun X B S H σ γ Q v u x y R d1 d2 q => ?_⟩
  obtain ⟨e, q⟩ := q
  subst e
  cases d2
  refine ⟨rfl, q _ S H R (Same.refl S) ?_⟩
  cases d1 <;> exact .bl _
theorem de_isN {j pos'} (ha : DE X a ta wa) : DE X (.Compare a [.Is] [.Constant .none j pos'] pos) (tOp (fun x y H Q => y = .non ∧ Q (.bl (decide (x = .non))) H) ta (tC .non)) (dOp (dIsN false) wa (dC .non)) := de_cmp op_isN ops_isN ha de_non (nomark _)
/-- - x -/
def dNeg (wa : WE) : WE := fun γ Q => wa γ fun x γ1 => ∃ i, x = .int i ∧ Q (.int (-i)) γ1
theorem de_neg (ha : DE X a ta wa) : DE X (.UnaryOp .USub a pos) (tUn (rU fun i => .int (-i)) ta) (dNeg wa) := by
  refine ⟨pe_un un_neg ha.pe, fun γ P P' k q => ha.se.mono γ _ _ (fun x γ1 ⟨i, e, q⟩ => ⟨i, e, k _ _ q⟩) q, fun B S H σ γ Q R q => ?_⟩
  refine ha.se.run B S H σ γ _ R (ha.se.mono γ _ _ (fun x γ1 ⟨i, e, q⟩ v S1 H1 R1 e1 d1 => ?_) q)
  subst e
  cases d1
  exact ⟨i, rfl, q _ S1 H1 R1 e1 (.int _)⟩

/-! ### tests -/
/-- a value's truth -/
def truD : D → Bool
  | .non => false | .bl b => b | .int i => i != 0 | .str s => (s.length : Int) != 0 | .lst ds => !ds.isEmpty | .tup ds => !ds.isEmpty | .obj _ _ => true | .emp => false | .ref _ => true
def okT : D → Prop
  | .str s => s.length ≤ sizeLine | .obj _ _ => False | .emp => False | .ref _ => False | _ => True
def dTr (wa : WE) : WT := fun γ Q => wa γ fun x γ1 => okT x ∧ Q (truD x) γ1
theorem isEmpty_len {α β : Type} {xs : List α} {ds : List β} (h : xs.length = ds.length) : xs.isEmpty = ds.isEmpty := by
  cases xs <;> cases ds <;> simp_all
theorem truV_of {H S : Hp} {v : V} {d : D} (h : Den S v d) (e : Same S H) (ok : okT d) : TruV K v H (truD d) := by
  cases h with
  | non => rfl
  | bl b => rfl
  | int i => rfl
  | str s => exact ⟨ok, rfl⟩
  | lst h hl hs => exact .inl ⟨_, SqL.of (e _ _ h), by show (!_) = _; rw [isEmpty_len hl]⟩
  | tup h hl hs => exact .inr (.inl ⟨_, SqT.of (e _ _ h), by show (!_) = _; rw [isEmpty_len hl]⟩)
  | obj h hl hn hs => exact ok.elim
  | emp h => exact ok.elim
  | ref p => exact ok.elim
theorem dt_tr (K' : PySem.W.Frag) (ha : DE X a ta wa) (he : ∀ whole, isTrue a X.env whole = (do let v ← whole; standAt a.pos; holding [v] (truthy v)) := by intro _; rfl) (hK : X.K = K' := by rfl) : DT X a (fun σ H Q => ta σ H fun x H' => ∃ k, TruV K' x H' k ∧ Q k H') (dTr wa) := by
  subst hK
  refine ⟨pt_truth ha.pe he, fun γ P P' k q => ha.se.mono γ _ _ (fun x γ1 ⟨e, q⟩ => ⟨e, k _ _ q⟩) q, fun B S H σ γ Q R q => ?_⟩
  refine ha.se.run B S H σ γ _ R (ha.se.mono γ _ _ (fun x γ1 ⟨ok, q⟩ v S1 H1 R1 e1 d1 => ?_) q)
  exact ⟨_, truV_of d1 R1.same ok, q S1 H1 R1 e1⟩
/-- a comparison as a test -/
def dB (wa : WE) : WT := fun γ Q => wa γ fun x γ1 => ∃ b, x = .bl b ∧ Q b γ1
theorem st_test (ha : SE X ta wa) : ST X (tTest ta) (dB wa) := by
  refine ⟨fun γ P P' k q => ha.mono γ _ _ (fun x γ1 ⟨i, e, q⟩ => ⟨i, e, k _ _ q⟩) q, fun B S H σ γ Q R q => ?_⟩
  refine ha.run B S H σ γ _ R (ha.mono γ _ _ (fun x γ1 ⟨i, e, q⟩ v S1 H1 R1 e1 d1 => ?_) q)
  subst e
  cases d1
  exact ⟨i, rfl, q S1 H1 R1 e1⟩
theorem dt_cmp {op : CmpOp} {r : R2} {f : D → D → (D → Prop) → Prop} (h : OpR X (compareOp op) r) (ho : OpS r f) (ha : DE X a ta wa) (hb : DE X b tb wb) (hm : behindInMarks op b = false) : DT X (.Compare a [op] [b] pos) (tTest (tOp r ta tb)) (dB (dOp f wa wb)) := ⟨pt_cmpR h ha.pe hb.pe hm, st_test (se_op ho ha.se hb.se)⟩
theorem dt_eq (ha : DE X a ta wa) (hb : DE X b tb wb) : DT X (.Compare a [.Eq] [b] pos) (tTest (tOp rEq ta tb)) (dB (dEq wa wb)) := dt_cmp op_eq ops_eq ha hb (nomark _)
theorem dt_ne (ha : DE X a ta wa) (hb : DE X b tb wb) : DT X (.Compare a [.NotEq] [b] pos) (tTest (tOp rNe ta tb)) (dB (dNe wa wb)) := dt_cmp op_ne ops_ne ha hb (nomark _)
theorem dt_lt (ha : DE X a ta wa) (hb : DE X b tb wb) : DT X (.Compare a [.Lt] [b] pos) (tTest (tOp (rI0 fun i j => .bl (decide (i < j))) ta tb)) (dB (dLt wa wb)) := dt_cmp op_lt (ops_I0 fun _ _ _ => .bl _) ha hb (nomark _)
theorem dt_gt (ha : DE X a ta wa) (hb : DE X b tb wb) : DT X (.Compare a [.Gt] [b] pos) (tTest (tOp (rI0 fun i j => .bl (decide (j < i))) ta tb)) (dB (dGt wa wb)) := dt_cmp op_gt (ops_I0 fun _ _ _ => .bl _) ha hb (nomark _)
theorem dt_ge (ha : DE X a ta wa) (hb : DE X b tb wb) : DT X (.Compare a [.GtE] [b] pos) (tTest (tOp (rI0 fun i j => .bl (decide (j ≤ i))) ta tb)) (dB (dGe wa wb)) := dt_cmp op_ge (ops_I0 fun _ _ _ => .bl _) ha hb (nomark _)
theorem dt_isN {j pos'} (ha : DE X a ta wa) : DT X (.Compare a [.Is] [.Constant .none j pos'] pos) (tTest (tOp (fun x y H Q => y = .non ∧ Q (.bl (decide (x = .non))) H) ta (tC .non))) (dB (dOp (dIsN false) wa (dC .non))) := dt_cmp op_isN ops_isN ha de_non (nomark _)
variable {t u : TT} {w w' : WT} {rest : List Expr}
def dAnd (w w' : WT) : WT := fun γ Q => w γ fun c γ1 => if c = true then w' γ1 Q else Q false γ1
def dOr (w w' : WT) : WT := fun γ Q => w γ fun c γ1 => if c = true then Q true γ1 else w' γ1 Q
def dNot (w : WT) : WT := fun γ Q => w γ fun c γ1 => Q (!c) γ1
theorem Mo.ite {α : Type} {w w' : List Sl → (α → List Sl → Prop) → Prop} (h : Mo w) (h' : Mo w') {γ} {P P' : α → List Sl → Prop} {c : Bool} (k : ∀ d γ', P d γ' → P' d γ') (q : if c = true then w γ P else w' γ P) : if c = true then w γ P' else w' γ P' := by
  cases c with
  | true => exact h γ _ _ k q
  | false => exact h' γ _ _ k q
theorem dw_and1 (h : DT X a t w) : DW X (.BoolOp .And [a] pos) t w := ⟨pw_and1 h.pt, h.st⟩
theorem dw_or1 (h : DT X a t w) : DW X (.BoolOp .Or [a] pos) t w := ⟨pw_or1 h.pt, h.st⟩
theorem dw_and (h : DT X a t w) (h' : DW X (.BoolOp .And (b :: rest) pos) u w') : DW X (.BoolOp .And (a :: b :: rest) pos) (tAnd t u) (dAnd w w') := by
  refine ⟨pw_and h.pt h'.pw, fun γ P P' k q => h.st.mono γ _ _ (fun c γ1 q => ?_) q, fun B S H σ γ Q R q => ?_⟩
  · cases c with
    | true => exact h'.st.mono γ1 _ _ k q
    | false => exact k _ _ q
  · refine h.st.run B S H σ γ _ R (h.st.mono γ _ _ (fun c γ1 q S1 H1 R1 e1 => ?_) q)
    cases c with
    | true => exact h'.st.run B S1 H1 σ γ1 _ R1 (h'.st.mono γ1 _ _ (fun b γ2 q S' H' R' e => q S' H' R' (e1.trans e)) q)
    | false => exact q S1 H1 R1 e1
theorem dw_or (h : DT X a t w) (h' : DW X (.BoolOp .Or (b :: rest) pos) u w') : DW X (.BoolOp .Or (a :: b :: rest) pos) (tOr t u) (dOr w w') := by
  refine ⟨pw_or h.pt h'.pw, fun γ P P' k q => h.st.mono γ _ _ (fun c γ1 q => ?_) q, fun B S H σ γ Q R q => ?_⟩
  · cases c with
    | true => exact k _ _ q
    | false => exact h'.st.mono γ1 _ _ k q
  · refine h.st.run B S H σ γ _ R (h.st.mono γ _ _ (fun c γ1 q S1 H1 R1 e1 => ?_) q)
    cases c with
    | true => exact q S1 H1 R1 e1
    | false => exact h'.st.run B S1 H1 σ γ1 _ R1 (h'.st.mono γ1 _ _ (fun b γ2 q S' H' R' e => q S' H' R' (e1.trans e)) q)
theorem dt_not (h : DT X a t w) : DT X (.UnaryOp .Not a pos) (tNot t) (dNot w) :=
  ⟨pt_not h.pt, fun γ P P' k q => h.st.mono γ _ _ (fun c γ1 q => k _ _ q) q, fun B S H σ γ Q R q => h.st.run B S H σ γ _ R q⟩
/-- .. as values (of bools) -/
def dAndV (wa wb : WE) : WE := fun γ Q => wa γ fun x γ1 => ∃ c, x = .bl c ∧ if c = true then wb γ1 Q else Q (.bl false) γ1
def dOrV (wa wb : WE) : WE := fun γ Q => wa γ fun x γ1 => ∃ c, x = .bl c ∧ if c = true then Q (.bl true) γ1 else wb γ1 Q
def dNotV (wa : WE) : WE := fun γ Q => wa γ fun x γ1 => ∃ c, x = .bl c ∧ Q (.bl (!c)) γ1
theorem de_one {op} (h : DE X a ta wa) : DE X (.BoolOp op [a] pos) ta wa := ⟨pe_one h.pe, h.se⟩
theorem de_and (h : DE X a ta wa) (h' : DE X (.BoolOp .And (b :: rest) pos) tb wb) : DE X (.BoolOp .And (a :: b :: rest) pos) (tAndV ta tb) (dAndV wa wb) := by
  refine ⟨L2.pe_and h.pe h'.pe, fun γ P P' k q => h.se.mono γ _ _ (fun x γ1 ⟨c, e, q⟩ => ⟨c, e, Mo.ite (w' := fun γ (Q : D → List Sl → Prop) => Q (D.bl false) γ) h'.se.mono (fun _ _ _ k q => k _ _ q) k q⟩) q, fun B S H σ γ Q R q => ?_⟩
  · refine h.se.run B S H σ γ _ R (h.se.mono γ _ _ (fun x γ1 ⟨c, e, q⟩ v S1 H1 R1 e1 d1 => ?_) q)
    subst e
    cases d1
    refine ⟨c, rfl, ?_⟩
    cases c with
    | true => exact h'.se.run B S1 H1 σ γ1 _ R1 (h'.se.mono γ1 _ _ (fun b γ2 q v S' H' R' e => q v S' H' R' (e1.trans e)) q)
    | false => exact q _ S1 H1 R1 e1 (.bl _)
theorem de_or (h : DE X a ta wa) (h' : DE X (.BoolOp .Or (b :: rest) pos) tb wb) : DE X (.BoolOp .Or (a :: b :: rest) pos) (tOrV ta tb) (dOrV wa wb) := by
  refine ⟨L2.pe_or h.pe h'.pe, fun γ P P' k q => h.se.mono γ _ _ (fun x γ1 ⟨c, e, q⟩ => ⟨c, e, Mo.ite (w := fun γ (Q : D → List Sl → Prop) => Q (D.bl true) γ) (fun _ _ _ k q => k _ _ q) h'.se.mono k q⟩) q, fun B S H σ γ Q R q => ?_⟩
  · refine h.se.run B S H σ γ _ R (h.se.mono γ _ _ (fun x γ1 ⟨c, e, q⟩ v S1 H1 R1 e1 d1 => ?_) q)
    subst e
    cases d1
    refine ⟨c, rfl, ?_⟩
    cases c with
    | true => exact q _ S1 H1 R1 e1 (.bl _)
    | false => exact h'.se.run B S1 H1 σ γ1 _ R1 (h'.se.mono γ1 _ _ (fun b γ2 q v S' H' R' e => q v S' H' R' (e1.trans e)) q)
/-- a if c else b -/
def dIfE (w : WT) (wa wb : WE) : WE := fun γ Q => w γ fun c γ1 => if c = true then wa γ1 Q else wb γ1 Q
end

/-! ### argument lists, displays -/
section
variable {X : Xb} {K : PySem.W.Frag} {e : Expr} {es : List Expr} {te : TE} {we : WE} {t : TA} {w : WA} {pos : Pos}
def dNil : WA := fun γ Q => Q [] γ
def dCons (we : WE) (w : WA) : WA := fun γ Q => we γ fun x γ1 => w γ1 fun ds γ2 => Q (x :: ds) γ2
theorem da_nil : DA X [] tNil dNil := ⟨pa_nil, fun γ P P' k q => k _ _ q, fun B S H σ γ Q R q => q [] S H R (Same.refl S) .nil⟩
theorem da_cons (he : DE X e te we) (h : DA X es t w) (hs : starEach (e :: es) X.env = (false, eval e X.env) :: starEach es X.env := by rfl) : DA X (e :: es) (tCons te t) (dCons we w) := by
  refine ⟨pa_cons he.pe h.pa hs, fun γ P P' k q => he.se.mono γ _ _ (fun x γ1 q => h.sa.mono γ1 _ _ (fun ds γ2 q => k _ _ q) q) q, fun B S H σ γ Q R q => ?_⟩
  refine he.se.run B S H σ γ _ R (he.se.mono γ _ _ (fun x γ1 q v S1 H1 R1 e1 d1 => ?_) q)
  exact h.sa.run B S1 H1 σ γ1 _ R1 (h.sa.mono γ1 _ _ (fun ds γ2 q vs S2 H2 R2 e2 d2 => q _ S2 H2 R2 (e1.trans e2) (.cons (d1.mono e2) d2)) q)
def dTup (w : WA) : WE := fun γ Q => w γ fun ds γ1 => ds.length ≤ sizeLine ∧ Q (.tup ds) γ1
theorem de_tup {x1} (h : DA X es t w) : DE X (.Tuple es x1 pos) (tTup t) (dTup w) := by
  refine ⟨pe_tup h.pa, fun γ P P' k q => h.sa.mono γ _ _ (fun x γ1 q => ⟨q.1, k _ _ q.2⟩) q, fun B S H σ γ Q R q => ?_⟩
  refine h.sa.run B S H σ γ _ R (h.sa.mono γ _ _ (fun x γ1 q vs S1 H1 R1 e1 d1 => ⟨by rw [d1.1]; exact q.1, fun p hp => ?_⟩) q)
  have e2 : Same S1 (upd S1 p (.tup vs)) := Same.upd (Same.refl S1) (R1.freshS hp)
  exact q.2 _ _ _ (R1.new hp) (e1.trans e2) (.ofT upd_same (d1.mono e2))
def dLst (w : WA) : WF := fun γ Q => w γ fun ds γ1 => ds.length ≤ sizeLine ∧ Q ds γ1
theorem df_lst (h : DA X es t w) : DF X (.List es pos) (tLst t) (dLst w) := by
  refine ⟨pe_lst h.pa, fun γ P P' k q => h.sa.mono γ _ _ (fun x γ1 q => ⟨q.1, k _ _ q.2⟩) q, fun B S H σ γ Q R q => ?_⟩
  refine h.sa.run B S H σ γ _ R (h.sa.mono γ _ _ (fun x γ1 q vs S1 H1 R1 e1 d1 => ⟨by rw [d1.1]; exact q.1, fun p hp => ?_⟩) q)
  exact q.2 p vs S1 _ (R1.newF hp) e1 d1
end
end DL
set_option Elab.async false
set_option linter.all false
set_option autoImplicit false
set_option maxRecDepth 100000
set_option maxHeartbeats 4000000
/-! DL3: subscripts, slices, calls, iterators, comprehensions. -/
namespace DL
open PySem PySem.Spec PyProof.Rows L2

section
variable {X : Xb} {K : PySem.W.Frag} {a b c e : Expr} {ta tb tc te : TE} {wa wb wc we : WE} {pos : Pos}
/-! ### x[i] -/
def rIxLT (K : PySem.W.Frag) : R2 := fun x y H Q => rIxL K x y H Q ∨ rIxT K x y H Q
theorem ix_LT : IxR X (rIxLT X.K) := IxR.or ix_list ix_tup
def itemD (x y : D) (Q : D → Prop) : Prop := ∃ i d, y = .int i ∧ ((∃ ds, x = .lst ds ∧ atI ds i = some d) ∨ (∃ ds, x = .tup ds ∧ atI ds i = some d)) ∧ Q d
theorem DenL.atI {S : Hp} {xs : List V} {ds : List D} {i : Int} {d : D} (h : DenL S xs ds) (e : atI ds i = some d) : ∃ v, atI xs i = some v ∧ Den S v d := by
  unfold L2.atI at e ⊢
  rw [h.1]
  cases q : ixN ds.length i with
  | none => rw [q] at e; cases e
  | some j =>
    rw [q] at e
    exact h.get e
theorem se_ix {ta tb : TE} {wa wb : WE} (ha : SE X ta wa) (hb : SE X tb wb) : SE X (tOp (rIxLT K) ta tb) (dOp itemD wa wb) := by
  refine ⟨fun γ P P' k q => ha.mono γ _ _ (fun x γ1 q => hb.mono γ1 _ _ (fun y γ2 ⟨i, d, e1, e2, q⟩ => ⟨i, d, e1, e2, k _ _ q⟩) q) q, fun B S H σ γ Q R q => ?_⟩
  refine ha.run B S H σ γ _ R (ha.mono γ _ _ (fun x γ1 q1 v S1 H1 R1 e1 d1 => ?_) q)
  refine hb.run B S1 H1 σ γ1 _ R1 (hb.mono γ1 _ _ (fun y γ2 q2 u S2 H2 R2 e2 d2 => ?_) q1)
  obtain ⟨i, d, f1, f2, q3⟩ := q2
  clear q1
  subst f1
  cases d2
  rcases f2 with ⟨ds, f2, f3⟩ | ⟨ds, f2, f3⟩
  · subst f2
    obtain ⟨a, xs, g1, g2, g3⟩ := d1.lst_inv
    subst g1
    obtain ⟨z, g4, g5⟩ := g3.atI f3
    exact .inl ⟨a, xs, i, z, rfl, rfl, SqL.of (R2.same _ _ (e2 _ _ g2)), g4, q3 z S2 H2 R2 (e1.trans e2) (g5.mono e2)⟩
  · subst f2
    obtain ⟨a, xs, g1, g2, g3⟩ := d1.tup_inv
    subst g1
    obtain ⟨z, g4, g5⟩ := g3.atI f3
    exact .inr ⟨a, xs, i, z, rfl, rfl, SqT.of (R2.same _ _ (e2 _ _ g2)), g4, q3 z S2 H2 R2 (e1.trans e2) (g5.mono e2)⟩
theorem de_ix (K' : PySem.W.Frag) (ha : DE X a ta wa) (hb : DE X b tb wb) (hs : PlainIx b := by exact fun _ _ => rfl) (hK : X.K = K' := by rfl) : DE X (.Subscript a b pos) (tOp (rIxLT K') ta tb) (dOp itemD wa wb) := by
  subst hK
  exact ⟨pe_ix ix_LT ha.pe hb.pe hs, se_ix ha.se hb.se⟩
/-- an item of a list of one's own, at a name -/
def dIxO (i : Nat) (wb : WE) : WE := fun γ Q => (∃ m ds, γ[i]? = some (.own m ds)) ∧ wb γ fun y γ1 => ∃ k m ds d, y = .int k ∧ γ1[i]? = some (.own m ds) ∧ atI ds k = some d ∧ Q d γ1
theorem de_ixO (K' : PySem.W.Frag) (i : Nat) {x : Str} {px : Pos} (hb : DE X b tb wb) (hN : X.N[i]? = some x := by rfl) (hv : Vis X.env.scope x := by first | exact Or.inl rfl | exact Or.inr (Or.inl rfl) | exact Or.inr (Or.inr rfl)) (hd : (x == ("__debug__" : Str)) = false := by decide)
    (hcd : (x == ("__classdict__" : Str)) = false := by decide) (hs : PlainIx b := by exact fun _ _ => rfl) (hK : X.K = K' := by rfl) : DE X (.Subscript (.Name x px) b pos) (tOp (rIxLT K') (tVar i) tb) (dIxO i wb) := by
  subst hK
  refine ⟨pe_ix ix_LT (pe_var hN hv hd hcd) hb.pe hs, fun γ P P' k q => ⟨q.1, hb.se.mono γ _ _ (fun y γ1 ⟨n, m, ds, d, e1, e2, e3, q⟩ => ⟨n, m, ds, d, e1, e2, e3, k _ _ q⟩) q.2⟩, fun B S H σ γ Q R q => ?_⟩
  obtain ⟨⟨m0, ds0, e0⟩, q⟩ := q
  obtain ⟨p0, xs0, g0, _⟩ := R.sl i _ e0
  refine ⟨_, g0, ?_⟩
  refine hb.se.run B S H σ γ _ R (hb.se.mono γ _ _ (fun y γ1 q u S1 H1 R1 e1 d1 => ?_) q)
  obtain ⟨n, m, ds, d, f1, f2, f3, q⟩ := q
  subst f1
  cases d1
  obtain ⟨p, xs, g1, g2, g3, g4, g5⟩ := R1.sl i _ f2
  rw [g0] at g1
  cases g1
  obtain ⟨z, g6, g7⟩ := g4.atI f3
  exact .inl ⟨p0, xs, n, z, rfl, rfl, SqL.of g3, g6, q z S1 H1 R1 e1 g7⟩

/-! ### slices of lists -/
def dNoPart : WO := fun γ Q => Q none γ
def dPart (w : WE) : WO := fun γ Q => w γ fun x γ1 => ∃ i, x = .int i ∧ Q (some i) γ1
theorem do_none : DO X none tNoPart dNoPart := ⟨po_none, fun γ P P' k q => k _ _ q, fun B S H σ γ Q R q => q S H R (Same.refl S)⟩
theorem do_some (h : DE X e te we) : DO X (some e) (tPart te) (dPart we) := by
  refine ⟨po_some h.pe, fun γ P P' k q => h.se.mono γ _ _ (fun x γ1 ⟨i, e, q⟩ => ⟨i, e, k _ _ q⟩) q, fun B S H σ γ Q R q => ?_⟩
  refine h.se.run B S H σ γ _ R (h.se.mono γ _ _ (fun x γ1 ⟨i, e, q⟩ u S1 H1 R1 e1 d1 => ?_) q)
  subst e
  cases d1
  exact ⟨i, rfl, q S1 H1 R1 e1⟩
def cutL (xs : List D) (lo hi : Option Int) : List D := (xs.drop (HT.sIx xs.length 0 lo)).take (HT.sIx xs.length xs.length hi - HT.sIx xs.length 0 lo)
theorem DenL.cut {S : Hp} {xs : List V} {ds : List D} (h : DenL S xs ds) (lo hi : Option Int) : DenL S (cutV xs lo hi) (cutL ds lo hi) := by
  unfold cutV cutL
  rw [h.1]
  exact (h.drop _).take _
def dSl (wa : WE) (wl wh : WO) : WF := fun γ Q => wa γ fun x γ1 => wl γ1 fun l γ2 => wh γ2 fun h γ3 => ∃ ds, x = .lst ds ∧ Q (cutL ds l h) γ3
/-- a slice of the script -/
def dSlS (i : Nat) (wl wh : WO) : WF := fun γ Q => (∃ ns, γ[i]? = some (.scr ns)) ∧ wl γ fun l γ2 => wh γ2 fun h γ3 => ∃ ns, γ3[i]? = some (.scr ns) ∧ Q (cutL (ns.map D.int) l h) γ3
theorem df_slS (K' : PySem.W.Frag) (i : Nat) {x : Str} {px : Pos} {lo hi : Option Expr} {tl th : TO} {wl wh : WO} {p2 : Pos} (hl : DO X lo tl wl) (hh : DO X hi th wh) (hN : X.N[i]? = some x := by rfl) (hv : Vis X.env.scope x := by first | exact Or.inl rfl | exact Or.inr (Or.inl rfl) | exact Or.inr (Or.inr rfl)) (hd : (x == ("__debug__" : Str)) = false := by decide)
    (hcd : (x == ("__classdict__" : Str)) = false := by decide) (hK : X.K = K' := by rfl) : DF X (.Subscript (.Name x px) (.Slice lo hi none p2) pos) (tSl (rSlL K') (tVar i) tl th) (dSlS i wl wh) := by
  subst hK
  refine ⟨pe_slice sl_list (pe_var hN hv hd hcd) hl.po hh.po, fun γ P P' k q => ⟨q.1, hl.so.mono γ _ _ (fun l γ2 q => hh.so.mono γ2 _ _ (fun h γ3 ⟨ds, e, q⟩ => ⟨ds, e, k _ _ q⟩) q) q.2⟩, fun B S H σ γ Q R q => ?_⟩
  obtain ⟨⟨ns0, e0⟩, q⟩ := q
  obtain ⟨a0, g0, _⟩ := R.sl i _ e0
  refine ⟨_, g0, ?_⟩
  refine hl.so.run B S H σ γ _ R (hl.so.mono γ _ _ (fun l γ2 q S2 H2 R2 e2 => ?_) q)
  refine hh.so.run B S2 H2 σ γ2 _ R2 (hh.so.mono γ2 _ _ (fun h γ3 q S3 H3 R3 e3 => ?_) q)
  obtain ⟨ns, e, q⟩ := q
  obtain ⟨a1, g1, g2⟩ := R3.sl i _ e
  rw [g0] at g1
  cases g1
  refine ⟨a0, _, rfl, R3.same.seq g2, fun p' hp => ?_⟩
  exact q p' _ S3 _ (R3.newF hp) (e2.trans e3) ((DenL.ints ns).cut l h)

/-! ### calls of built-ins by values -/
/-- a call's rule by values and what it is on data -/
structure CallS (X : Xb) (r : List V → Hp → VK → Prop) (f : List D → (D → Prop) → Prop) : Prop where
  mono : ∀ ds (P P' : D → Prop), (∀ d, P d → P' d) → f ds P → f ds P'
  run : ∀ B S H σ γ (Q : VK) vs ds, Rel X B S H σ γ → DenL S vs ds → f ds (fun d => ∀ z S' H', Rel X B S' H' σ γ → Same S S' → Den S' z d → Q z H') → r vs H Q
def dCall (f : List D → (D → Prop) → Prop) (w : WA) : WE := fun γ Q => w γ fun ds γ1 => f ds fun d => Q d γ1
theorem se_call {r : List V → Hp → VK → Prop} {f : List D → (D → Prop) → Prop} {t : TA} {w : WA} (h : CallS X r f) (ha : SA X t w) : SE X (tCB r t) (dCall f w) := by
  refine ⟨fun γ P P' k q => ha.mono γ _ _ (fun ds γ1 q => h.mono ds _ _ (fun d q => k _ _ q) q) q, fun B S H σ γ Q R q => ?_⟩
  refine ha.run B S H σ γ _ R (ha.mono γ _ _ (fun ds γ1 q vs S1 H1 R1 e1 d1 => ?_) q)
  exact h.run B S1 H1 σ γ1 Q vs ds R1 d1 (h.mono _ _ _ (fun d q z S' H' R' e d' => q z S' H' R' (e1.trans e) d') q)
variable {x : Str} {es : List Expr} {t : TA} {w : WA} {p : Pos} {nm T : String}
theorem de_callB {r : List V → Hp → VK → Prop} {f : List D → (D → Prop) → Prop} (hs : CallS X r f) (hc : CallR X (.builtin nm) r) (hm : X.mg x = none) (hv : bootBuiltins x = some (.builtin nm)) (ha : DA X (e :: es) t w) (hg : Gl X x := by rfl) (hn : x ≠ "__name__" := by decide) (hdb : (x == ("__debug__" : Str)) = false := by decide)
    (he : starEach (e :: es) X.env = (false, eval e X.env) :: starEach es X.env := by rfl) (hpl : (backTo pos (starEach es X.env)).any (·.1) = false := by rfl) : DE X (.Call (.Name x p) (e :: es) [] pos) (tCB r t) (dCall f w) := ⟨pe_callB hc hg hm hv ha.pa hn hdb he hpl, se_call hs ha.sa⟩
theorem de_callTy {r : List V → Hp → VK → Prop} {f : List D → (D → Prop) → Prop} (hs : CallS X r f) (hc : CallR X (.type T) r) (hm : X.mg x = none) (hv : bootBuiltins x = some (.type T)) (ha : DA X (e :: es) t w) (hg : Gl X x := by rfl) (hn : x ≠ "__name__" := by decide) (hdb : (x == ("__debug__" : Str)) = false := by decide)
    (he : starEach (e :: es) X.env = (false, eval e X.env) :: starEach es X.env := by rfl) (hpl : (backTo pos (starEach es X.env)).any (·.1) = false := by rfl) : DE X (.Call (.Name x p) (e :: es) [] pos) (tCB r t) (dCall f w) := ⟨pe_callTy hc hg hm hv ha.pa hn hdb he hpl, se_call hs ha.sa⟩
/-- len -/
def lenD (ds : List D) (Q : D → Prop) : Prop := ∃ es, (ds = [.lst es] ∨ ds = [.tup es]) ∧ Q (.int es.length)
theorem DenL.one {S : Hp} {vs : List V} {d : D} (h : DenL S vs [d]) : ∃ v, vs = [v] ∧ Den S v d := by
  obtain ⟨v, r, rfl, h1, h2⟩ := h.cons_inv
  rw [h2.nil_inv]
  exact ⟨v, rfl, h1⟩
theorem DenL.two {S : Hp} {vs : List V} {d d' : D} (h : DenL S vs [d, d']) : ∃ v u, vs = [v, u] ∧ Den S v d ∧ Den S u d' := by
  obtain ⟨v, r, rfl, h1, h2⟩ := h.cons_inv
  obtain ⟨u, rfl, h3⟩ := h2.one
  exact ⟨v, u, rfl, h1, h3⟩
theorem cs_len : CallS X (fun xs H Q => ∃ p ys, xs = [.ref p] ∧ (SqL K H p ys ∨ SqT K H p ys) ∧ Q (.int ys.length) H) lenD := by
  refine ⟨fun ds P P' k ⟨es, e, q⟩ => ⟨es, e, k _ q⟩, fun B S H σ γ Q vs ds R d q => ?_⟩
  obtain ⟨es, e, q⟩ := q
  rcases e with e | e
  · subst e
    obtain ⟨v, rfl, d1⟩ := d.one
    obtain ⟨a, xs, rfl, g2, g3⟩ := d1.lst_inv
    refine ⟨a, xs, rfl, .inl (SqL.of (R.same _ _ g2)), ?_⟩
    rw [g3.1]
    exact q _ S H R (Same.refl S) (.int _)
  · subst e
    obtain ⟨v, rfl, d1⟩ := d.one
    obtain ⟨a, xs, rfl, g2, g3⟩ := d1.tup_inv
    refine ⟨a, xs, rfl, .inr (SqT.of (R.same _ _ g2)), ?_⟩
    rw [g3.1]
    exact q _ S H R (Same.refl S) (.int _)
/-- len of a list of one's own -/
def dLenO (i : Nat) : WE := fun γ Q => ∃ m ds, γ[i]? = some (.own m ds) ∧ Q (.int ds.length) γ
/-- sum of ints -/
def sumD (ds : List D) (Q : D → Prop) : Prop := ∃ ns : List Int, ds = [.lst (ns.map D.int)] ∧ Q (.int ns.sum)
/-- all, any of bools -/
def allD (ds : List D) (Q : D → Prop) : Prop := ∃ bs : List Bool, ds = [.lst (bs.map D.bl)] ∧ Q (.bl (bs.all id))
def anyD (ds : List D) (Q : D → Prop) : Prop := ∃ bs : List Bool, ds = [.lst (bs.map D.bl)] ∧ Q (.bl (bs.any id))
/-- int(x) of an int or a bool -/
def intD (ds : List D) (Q : D → Prop) : Prop := (∃ i, ds = [.int i] ∧ Q (.int i)) ∨ ∃ b, ds = [.bl b] ∧ Q (.int (if b then 1 else 0))
theorem cs_int : CallS X (fun xs H Q => (∃ i, xs = [.int i] ∧ Q (.int i) H) ∨ ∃ k, xs = [.bl k] ∧ Q (.int (if k then 1 else 0)) H) intD := by
  refine ⟨fun ds P P' k q => ?_, fun B S H σ γ Q vs ds R d q => ?_⟩
  · rcases q with ⟨i, e, q⟩ | ⟨i, e, q⟩
    · exact .inl ⟨i, e, k _ q⟩
    · exact .inr ⟨i, e, k _ q⟩
  · rcases q with ⟨i, e, q⟩ | ⟨i, e, q⟩
    · subst e
      obtain ⟨v, rfl, d1⟩ := d.one
      cases d1
      exact .inl ⟨i, rfl, q _ S H R (Same.refl S) (.int _)⟩
    · subst e
      obtain ⟨v, rfl, d1⟩ := d.one
      cases d1
      exact .inr ⟨i, rfl, q _ S H R (Same.refl S) (.int _)⟩
end
end DL
set_option Elab.async false
set_option linter.all false
set_option autoImplicit false
set_option maxRecDepth 100000
set_option maxHeartbeats 4000000
/-! DL4: iterators, comprehensions, targets, statements. -/
namespace DL
open PySem PySem.Spec PyProof.Rows L2

/-! ### what is walked -/
structure StI (J : It) (S : Hp) (ds : List D) : Prop where
  go : ∀ i H, Same S H → i < ds.length → J.go i H
  stop : ∀ i H, Same S H → ds.length ≤ i → J.stop i H
  yld : ∀ i H x H', Same S H → i < ds.length → J.yld i H x H' → ∃ d, ds[i]? = some d ∧ ((H' = H ∧ Den S x d) ∨ ∃ T xs es, x = .ref T ∧ H T = none ∧ H' = upd H T (.tup xs) ∧ d = .tup es ∧ DenL S xs es)
structure SI (X : Xb) (t : TI) (w : WA) : Prop where
  mono : Mo w
  run : ∀ B S H σ γ (Q : It → Hp → Prop), Rel X B S H σ γ → w γ (fun ds γ' => ∀ J S' H', Rel X B S' H' σ γ' → Same S S' → StI J S' ds → Q J H') → t σ H Q
structure DI (X : Xb) (tg iter : Expr) (t : TI) (w : WA) : Prop where
  pi : PI X tg iter t
  si : SI X t w
theorem StI.mono {J : It} {S S' : Hp} {ds : List D} (h : StI J S ds) (e : Same S S') : StI J S' ds :=
  ⟨fun i H e1 hi => h.go i H (e.trans e1) hi, fun i H e1 hi => h.stop i H (e.trans e1) hi, fun i H x H' e1 hi y => by
    obtain ⟨d, hd, q⟩ := h.yld i H x H' (e.trans e1) hi y
    refine ⟨d, hd, ?_⟩
    rcases q with ⟨e2, q⟩ | ⟨T, xs, es, e2, e3, e4, e5, q⟩
    · exact .inl ⟨e2, q.mono e⟩
    · exact .inr ⟨T, xs, es, e2, e3, e4, e5, q.mono e⟩⟩
section
variable {X : Xb} {K : PySem.W.Frag} {tg a b e l : Expr} {ta tb te tl : TE} {wa wb we wl : WE} {pos p : Pos}
theorem sti_list {S : Hp} {a : Addr} {xs : List V} {ds : List D} (h : S a = some (.lst xs)) (hd : DenL S xs ds) : StI (Itl K a) S ds := by
  refine ⟨fun i H e hi => ?_, fun i H e hi => ⟨xs, SqL.of (e _ _ h), by rw [hd.1]; exact hi⟩, fun i H x H' e hi y => ?_⟩
  · have hx : i < xs.length := by rw [hd.1]; exact hi
    exact ⟨xs, xs[i], SqL.of (e _ _ h), List.getElem?_eq_getElem hx⟩
  · obtain ⟨e1, y⟩ := y
    obtain ⟨d, h1, h2⟩ := hd.getV (y xs (SqL.of (e _ _ h)))
    exact ⟨d, h1, .inl ⟨e1, h2⟩⟩
/-- a list -/
def dIL (wl : WE) : WA := fun γ Q => wl γ fun x γ1 => ∃ ds, x = .lst ds ∧ Q ds γ1
theorem di_list (K' : PySem.W.Frag) (h : DE X l tl wl) (hK : X.K = K' := by rfl) : DI X tg l (iList K' tl) (dIL wl) := by
  subst hK
  refine ⟨pi_list h.pe, fun γ P P' k q => h.se.mono γ _ _ (fun x γ1 ⟨ds, e, q⟩ => ⟨ds, e, k _ _ q⟩) q, fun B S H σ γ Q R q => ?_⟩
  refine h.se.run B S H σ γ _ R (h.se.mono γ _ _ (fun x γ1 ⟨ds, e, q⟩ v S1 H1 R1 e1 d1 => ?_) q)
  subst e
  obtain ⟨a, xs, rfl, g2, g3⟩ := d1.lst_inv
  exact ⟨a, rfl, ⟨xs, SqL.of (R1.same _ _ g2)⟩, q _ S1 H1 R1 e1 (sti_list g2 g3)⟩
/-- a tuple -/
def dIT (wl : WE) : WA := fun γ Q => wl γ fun x γ1 => ∃ ds, x = .tup ds ∧ Q ds γ1
/-- range(n) -/
def rngD (lo : Int) (n : Nat) : List D := (List.range n).map fun (i : Nat) => .int (lo + (i : Int))
theorem sti_rng {S : Hp} {lo : Int} {n : Nat} : StI (Itr lo n) S (rngD lo n) := by
  have hl : (rngD lo n).length = n := by simp [rngD]
  refine ⟨fun i H e hi => by rw [hl] at hi; exact hi, fun i H e hi => by rw [hl] at hi; exact hi, fun i H x H' e hi y => ?_⟩
  rw [hl] at hi
  obtain ⟨e1, y⟩ := y
  refine ⟨.int (lo + (i : Int)), ?_, .inl ⟨e1, by rw [y]; exact .int _⟩⟩
  simp [rngD, List.getElem?_map, List.getElem?_range hi]
def dIR1 (w : WA) : WA := fun γ Q => w γ fun ds γ1 => ∃ n, ds = [.int n] ∧ (-(2 ^ 62) ≤ n ∧ n < 2 ^ 62) ∧ Q (rngD 0 n.toNat) γ1
theorem di_range1 {t : TA} {w : WA} (hm : X.mg "range" = none) (ha : DA X [a] t w) (hg : Gl X "range" := by rfl) (hs : starEach [a] X.env = [(false, eval a X.env)] := by rfl) : DI X tg (.Call (.Name "range" p) [a] [] pos) (iRng1 t) (dIR1 w) := by
  refine ⟨pi_range1 hg hm ha.pa hs, fun γ P P' k q => ha.sa.mono γ _ _ (fun x γ1 ⟨n, e, c, q⟩ => ⟨n, e, c, k _ _ q⟩) q, fun B S H σ γ Q R q => ?_⟩
  refine ha.sa.run B S H σ γ _ R (ha.sa.mono γ _ _ (fun ds γ1 ⟨n, e, ⟨c1, c2⟩, q⟩ vs S1 H1 R1 e1 d1 => ?_) q)
  subst e
  obtain ⟨v, rfl, d2⟩ := d1.one
  cases d2
  exact ⟨n, rfl, c1, c2, q _ S1 H1 R1 e1 sti_rng⟩
def dIR2 (w : WA) : WA := fun γ Q => w γ fun ds γ1 => ∃ i j, ds = [.int i, .int j] ∧ (-(2 ^ 62) ≤ i ∧ i < 2 ^ 62 ∧ -(2 ^ 62) ≤ j ∧ j < 2 ^ 62) ∧ Q (rngD i (j - i).toNat) γ1
/-- enumerate(list), zip(list, list) -/
def enumD (ds : List D) : List D := ds.zipIdx.map fun q => .tup [.int (q.2 : Nat), q.1]
def dIEn (w : WA) : WA := fun γ Q => w γ fun ds γ1 => ∃ es, ds = [.lst es] ∧ Q (enumD es) γ1
def zipD (xs ys : List D) : List D := List.zipWith (fun a b => .tup [a, b]) xs ys
def dIZ (w : WA) : WA := fun γ Q => w γ fun ds γ1 => ∃ es fs, ds = [.lst es, .lst fs] ∧ Q (zipD es fs) γ1
/-- the script -/
def dIS (i : Nat) : WA := fun γ Q => ∃ ns, γ[i]? = some (.scr ns) ∧ Q (ns.map D.int) γ
end

/-! ### targets -/
abbrev WG := D → List Sl → (List Sl → Prop) → Prop
abbrev WGs := List D → List Sl → (List Sl → Prop) → Prop
structure SG (X : Xb) (g : TG) (w : WG) : Prop where
  mono : ∀ d γ (P P' : List Sl → Prop), (∀ γ', P γ' → P' γ') → w d γ P → w d γ P'
  run : ∀ B S H σ γ v d (Q : L2.St → Hp → Prop), Rel X B S H σ γ → Den S v d → w d γ (fun γ' => ∀ σ', Rel X B S H σ' γ' → Q σ' H) → g v σ H Q
structure SGs (X : Xb) (g : TGs) (w : WGs) : Prop where
  mono : ∀ ds γ (P P' : List Sl → Prop), (∀ γ', P γ' → P' γ') → w ds γ P → w ds γ P'
  run : ∀ B S H σ γ vs ds (Q : L2.St → Hp → Prop), Rel X B S H σ γ → DenL S vs ds → w ds γ (fun γ' => ∀ σ', Rel X B S H σ' γ' → Q σ' H) → g vs σ H Q
/-- only the slots vs are stored -/
def GIn (g : TG) (vs : List Nat) : Prop := ∀ v σ H (Q : L2.St → Hp → Prop), g v σ H Q → g v σ H fun σ' H' => wipe σ' vs = wipe σ vs ∧ Q σ' H'
def GsIn (g : TGs) (vs : List Nat) : Prop := ∀ xs σ H (Q : L2.St → Hp → Prop), g xs σ H Q → g xs σ H fun σ' H' => wipe σ' vs = wipe σ vs ∧ Q σ' H'
structure DG (X : Xb) (tg : Expr) (g : TG) (w : WG) : Prop where
  pg : PG X tg g
  sg : SG X g w
structure DGs (X : Xb) (es : List Expr) (g : TGs) (w : WGs) : Prop where
  pg : PGs X es g
  sg : SGs X g w
theorem wipe_set {σ : L2.St} {j : Nat} {x : Option V} : ∀ {vs : List Nat}, j ∈ vs → wipe (σ.set j x) vs = wipe σ vs
  | v :: vs, h => by
    show (wipe (σ.set j x) vs).set v none = (wipe σ vs).set v none
    by_cases hj : j ∈ vs
    · rw [wipe_set hj]
    · have e : v = j := by
        rcases List.mem_cons.mp h with h | h
        · exact h.symm
        · exact absurd h hj
      subst e
      have : ∀ (vs : List Nat), v ∉ vs → wipe (σ.set v x) vs = (wipe σ vs).set v x := by
        intro vs
        induction vs with
        | nil => intro _; rfl
        | cons u us ih =>
          intro hv
          show (wipe (σ.set v x) us).set u none = ((wipe σ us).set u none).set v x
          rw [ih (fun z => hv (List.mem_cons_of_mem _ z)), List.set_comm]
          intro z
          exact hv (by rw [z]; exact List.mem_cons_self)
      rw [this vs hj, List.set_set]
section
variable {X : Xb} {K : PySem.W.Frag} {pos : Pos}
def dName (i : Nat) : WG := fun d γ Q => Q (γ.set i (.val d))
theorem dg_name {i : Nat} {x : Str} (hN : X.N.Nodup) (hi : X.N[i]? = some x := by rfl) (hx : Loc X.env.scope x := by first | exact Or.inl rfl | exact Or.inr rfl) (hf : X.fn x = true ∨ X.env.scope.names.lookup x = some .local := by first | exact .inl rfl | exact .inr rfl | assumption) : DG X (.Name x pos) (gName i) (dName i) :=
  ⟨pg_name hN hi hx hf, fun d γ P P' k q => k _ q, fun B S H σ γ v d Q R h q => q _ (R.set ⟨v, rfl, h⟩ rfl)⟩
theorem gin_name {i : Nat} {vs : List Nat} (h : i ∈ vs) : GIn (gName i) vs := fun v σ H Q q => ⟨wipe_set h, q⟩
def dgNil : WGs := fun ds γ Q => ds = [] ∧ Q γ
def dgCons (w : WG) (w' : WGs) : WGs := fun ds γ Q => ∃ d r, ds = d :: r ∧ w d γ fun γ1 => w' r γ1 Q
def dgTup (n : Nat) (w : WGs) : WG := fun d γ Q => ∃ ds, d = .tup ds ∧ ds.length = n ∧ w ds γ Q
end

/-! ### comprehensions -/
def wipeG (γ : List Sl) : List Nat → List Sl
  | [] => γ
  | v :: vs => (wipeG γ vs).set v .any
theorem Rel.wipe {X : Xb} {B : Bs} {S H : Hp} {σ : L2.St} {γ : List Sl} (R : Rel X B S H σ γ) : ∀ vs : List Nat, Rel X B S H σ (wipeG γ vs)
  | [] => R
  | v :: vs => (R.wipe vs).drop
theorem wipeG_len (γ : List Sl) : ∀ vs : List Nat, (wipeG γ vs).length = γ.length
  | [] => rfl
  | v :: vs => by unfold wipeG; rw [List.length_set, wipeG_len γ vs]
theorem wipeG_at {γ : List Sl} {j : Nat} (hj : j < γ.length) : ∀ {vs : List Nat}, j ∈ vs → (wipeG γ vs)[j]? = some .any
  | v :: vs, h => by
    unfold wipeG
    by_cases e : v = j
    · subst e; rw [List.getElem?_set_self (by rw [wipeG_len]; exact hj)]
    · rw [List.getElem?_set_ne e]
      exact wipeG_at hj (by rcases List.mem_cons.mp h with h | h; exact absurd h.symm e; exact h)
theorem wipe_get {σ : L2.St} {j : Nat} : ∀ {vs : List Nat}, j ∉ vs → (L2.wipe σ vs)[j]? = σ[j]?
  | [], _ => rfl
  | v :: vs, h => by
    unfold L2.wipe
    rw [List.getElem?_set_ne (fun z => h (by rw [z]; exact List.mem_cons_self)), wipe_get (fun z => h (List.mem_cons_of_mem _ z))]
/-- other values in slots of which nothing is known -/
theorem Rel.other {X : Xb} {B : Bs} {S H : Hp} {σ σ' : L2.St} {γ : List Sl} (R : Rel X B S H σ γ) (hl : σ'.length = σ.length) (h : ∀ (i : Nat) s, γ[i]? = some s → s ≠ Sl.any → σ'[i]? = σ[i]?) : Rel X B S H σ' γ := by
  obtain ⟨φ, r⟩ := R.r
  refine R.with ?_ (Same.refl S)
  refine ⟨φ, r.same, r.keep, r.muk, r.grow, r.ext, hl.trans r.len, fun i s e => ?_, r.phH, r.phS, r.phD, r.phO, r.frm, r.frn, r.spS⟩
  by_cases hs : s = Sl.any
  · subst hs; trivial
  · rw [h i _ e hs]; exact r.sl i _ e
theorem Rel.wiped {X : Xb} {B : Bs} {S H : Hp} {σ : L2.St} {γ : List Sl} {vs : List Nat} (R : Rel X B S H σ γ) (h : ∀ v ∈ vs, ∀ s, γ[v]? = some s → s = .any) : Rel X B S H (L2.wipe σ vs) γ :=
  R.other (wipe_length σ vs) fun i s e hs => wipe_get fun hi => hs (h i hi s e)
theorem Rel.unwiped {X : Xb} {B : Bs} {S H : Hp} {σ : L2.St} {γ : List Sl} {vs : List Nat} (R : Rel X B S H (L2.wipe σ vs) γ) (h : ∀ v ∈ vs, ∀ s, γ[v]? = some s → s = .any) : Rel X B S H σ γ :=
  R.other (wipe_length σ vs).symm fun i s e hs => (wipe_get fun hi => hs (h i hi s e)).symm
theorem wipeG_any {γ : List Sl} {vs : List Nat} : ∀ v ∈ vs, ∀ s, (wipeG γ vs)[v]? = some s → s = .any := fun v hv s e => by
  by_cases hj : v < γ.length
  · rw [wipeG_at hj hv] at e; exact (Option.some.inj e).symm
  · rw [List.getElem?_eq_none (by rw [wipeG_len]; omega)] at e; cases e
structure STs (X : Xb) (t : TT) (w : WT) : Prop where
  st : ST X t w
structure DTs (X : Xb) (ifs : List Expr) (t : TT) (w : WT) : Prop where
  pt : PTs X ifs t
  st : ST X t w
def dYes : WT := fun γ Q => Q true γ
theorem dts_nil {X : Xb} : DTs X [] tYes dYes := ⟨pts_nil, fun γ P P' k q => k _ _ q, fun B S H σ γ Q R q => q S H R (Same.refl S)⟩
theorem dts_one {X : Xb} {c : Expr} {t : TT} {w : WT} (h : DT X c t w) : DTs X [c] t w := ⟨pts_one h.pt, h.st⟩
def dLc (wi : WA) (wg : WG) (wt : WT) (we : WE) (vs : List Nat) : WF := fun γ Q => wi γ fun ds γ1 => ds.length ≤ sizeLine ∧ (∀ v ∈ vs, ∀ s, γ1[v]? = some s → s = .any) ∧ ∃ I : Nat → List D → List Sl → Prop, I 0 [] γ1 ∧
  (∀ i acc γ d, ds[i]? = some d → I i acc γ → (∀ v ∈ vs, ∀ s, γ[v]? = some s → s = .any) ∧ wg d γ fun γ2 => wt γ2 fun b γ3 => if b = true then we γ3 fun y γ4 => I (i + 1) (acc ++ [y]) (wipeG γ4 vs) else I (i + 1) acc (wipeG γ3 vs)) ∧
  ∀ acc γ, I ds.length acc γ → (∀ v ∈ vs, ∀ s, γ[v]? = some s → s = .any) ∧ Q acc γ
theorem wipe_wipe {σ : L2.St} : ∀ (vs us : List Nat), (∀ v ∈ vs, v ∈ us) → L2.wipe (L2.wipe σ us) vs = L2.wipe σ us
  | [], _, _ => rfl
  | v :: vs, us, h => by
    show (L2.wipe (L2.wipe σ us) vs).set v none = _
    rw [wipe_wipe vs us fun u hu => h u (List.mem_cons_of_mem _ hu)]
    have : ∀ us : List Nat, v ∈ us → (L2.wipe σ us).set v none = L2.wipe σ us := by
      intro us
      induction us with
      | nil => intro z; cases z
      | cons u us ih =>
        intro hv
        show ((L2.wipe σ us).set u none).set v none = (L2.wipe σ us).set u none
        by_cases e : u = v
        · subst e; rw [List.set_set]
        · rw [List.set_comm _ _ e, ih (by rcases List.mem_cons.mp hv with z | z; exact absurd z.symm e; exact z)]
    exact this us (h v List.mem_cons_self)
section
variable {X : Xb} {K : PySem.W.Frag}
section
variable {s0 : Shared} {H0 : Hp} {sc : Scope} {env : Env} {fp : List Addr}
theorem SE.ofBlk {t : TE} {w : WE} (h : SE (X.blk s0 H0 sc env fp) t w) : SE X t w := ⟨h.mono, fun B S H σ γ Q R q => h.run B S H σ γ Q R.toBlk (h.mono _ _ _ (fun d γ' q v S' H' R' e dn => q v S' H' R'.ofBlk e dn) q)⟩
theorem ST.ofBlk {t : TT} {w : WT} (h : ST (X.blk s0 H0 sc env fp) t w) : ST X t w := ⟨h.mono, fun B S H σ γ Q R q => h.run B S H σ γ Q R.toBlk (h.mono _ _ _ (fun d γ' q S' H' R' e => q S' H' R'.ofBlk e) q)⟩
theorem SG.ofBlk {g : TG} {w : WG} (h : SG (X.blk s0 H0 sc env fp) g w) : SG X g w := ⟨h.mono, fun B S H σ γ v d Q R dn q => h.run B S H σ γ v d Q R.toBlk dn (h.mono _ _ _ _ (fun γ' q σ' R' => q σ' R'.ofBlk) q)⟩
theorem SI.ofBlk {t : TI} {w : WA} (h : SI (X.blk s0 H0 sc env fp) t w) : SI X t w := ⟨h.mono, fun B S H σ γ Q R q => h.run B S H σ γ Q R.toBlk (h.mono _ _ _ (fun ds γ' q J S' H' R' e hJ => q J S' H' R'.ofBlk e hJ) q)⟩
end
theorem sf_lc {ti : TI} {wi : WA} {g : TG} {wg : WG} {tt : TT} {wt : WT} {te : TE} {we : WE} {vs : List Nat} (hi : SI X ti wi) (hg : SG X g wg) (hgi : GIn g vs) (hgm : ∀ v σ H (P P' : L2.St → Hp → Prop), (∀ σ' H', P σ' H' → P' σ' H') → g v σ H P → g v σ H P') (ht : ST X tt wt) (he : SE X te we) : SF X (tLc ti g tt te vs) (dLc wi wg wt we vs) := by
  refine ⟨fun γ P P' k q => hi.mono γ _ _ (fun ds γ1 ⟨hz, ha, I, h0, hs, hd⟩ => ⟨hz, ha, I, h0, hs, fun acc γ q => ⟨(hd acc γ q).1, k _ _ (hd acc γ q).2⟩⟩) q, fun B S H σ γ Q R q => ?_⟩
  refine hi.run B S H σ γ _ R (hi.mono γ _ _ (fun ds γ1 ⟨hz, ha, I, h0, hs, hd⟩ J S1 H1 R1 e1 hJ A hA => ?_) q)
  refine ⟨fun i m H => m = ds.length - i ∧ i ≤ ds.length ∧ ∃ S2 γ2 acc xs, Rel X (B.fram A (.lst xs)) S2 H (L2.wipe σ vs) γ2 ∧ Same S1 S2 ∧ I i acc γ2 ∧ acc.length ≤ i ∧ DenL S2 xs acc, ⟨ds.length, by simp, Nat.zero_le _, S1, γ1, [], [], (R1.newF hA).wiped ha, Same.refl S1, h0, Nat.le_refl _, .nil⟩, ?_⟩
  rintro i m H2 ⟨rfl, hi2, S2, γ2, acc, xs, R2, e2, hI, hal, k5⟩
  by_cases hlt : i < ds.length
  · refine .inr ⟨(hJ.mono e2).go i H2 R2.same hlt, fun H' => i + 1 ≤ ds.length ∧ ∃ S3 γ3 acc xs, Rel X (B.fram A (.lst xs)) S3 H' (L2.wipe σ vs) γ3 ∧ Same S1 S3 ∧ I (i + 1) acc γ3 ∧ acc.length ≤ i + 1 ∧ DenL S3 xs acc, fun H' q => ⟨_, by omega, rfl, q⟩, fun x H' y => ?_⟩
    obtain ⟨d, hdi, hy⟩ := (hJ.mono e2).yld i H2 x H' R2.same hlt y
    obtain ⟨hany, body⟩ := hs i acc γ2 d hdi hI
    -- the item's heap
    obtain ⟨S3, R3, e3, d3⟩ : ∃ S3, Rel X (B.fram A (.lst xs)) S3 H' (L2.wipe σ vs) γ2 ∧ Same S2 S3 ∧ Den S3 x d := by
      rcases hy with ⟨f1, f2⟩ | ⟨T, ys, es, f1, f2, f3, f4, f5⟩
      · subst f1; exact ⟨S2, R2, Same.refl S2, f2⟩
      · subst f1 f3 f4
        have e4 : Same S2 (upd S2 T (.tup ys)) := Same.upd (Same.refl S2) (R2.freshS f2)
        exact ⟨_, R2.new f2, e4, .ofT upd_same (f5.mono e4)⟩
    refine hgm _ _ _ _ _ (fun σ4 H4 ⟨w4, q4⟩ => ⟨w4.trans (wipe_wipe vs vs fun _ h => h), q4 (w4.trans (wipe_wipe vs vs fun _ h => h))⟩) (hgi _ _ _ (fun σ4 H4 => L2.wipe σ4 vs = L2.wipe σ vs → tt σ4 H4 _) ?_)
    refine hg.run _ S3 H' _ γ2 x d _ R3 d3 (hg.mono _ _ _ _ (fun γ4 body σ4 R4 w4 => ?_) body)
    refine ht.run _ S3 H' σ4 γ4 _ R4 (ht.mono _ _ _ (fun b γ5 body S5 H5 R5 e5 => ?_) body)
    have back : ∀ {S6 : Hp} {H6 : Hp} {γ6 : List Sl}, Rel X (B.fram A (.lst xs)) S6 H6 σ4 γ6 → Rel X (B.fram A (.lst xs)) S6 H6 (L2.wipe σ vs) (wipeG γ6 vs) := fun {S6 H6 γ6} R6 => by
      have W := (R6.wipe vs).wiped wipeG_any
      rw [w4] at W
      exact W
    cases b with
    | false => exact ⟨hlt, S5, _, acc, xs, back R5, e2.trans (e3.trans e5), body, by omega, k5.mono (e3.trans e5)⟩
    | true =>
      refine he.run _ S5 H5 σ4 γ5 _ R5 (he.mono _ _ _ (fun y γ6 body v S6 H6 R6 e6 d6 => ?_) body)
      have W := back R6
      have e7 : Same S2 S6 := e3.trans (e5.trans e6)
      exact ⟨xs, W.unfram.2.1, by rw [k5.1]; omega, hlt, S6, _, acc ++ [y], xs ++ [v], W.chgF, e2.trans e7, body, by rw [List.length_append, List.length_singleton]; omega, (k5.mono e7).snoc d6⟩
  · have e : i = ds.length := by omega
    subst e
    obtain ⟨g1, g2⟩ := hd acc γ2 hI
    exact .inl ⟨(hJ.mono e2).stop _ H2 R2.same (Nat.le_refl _), g2 A xs S2 H2 (R2.unwiped g1) (e1.trans e2) k5⟩
end
end DL
set_option Elab.async false
set_option linter.all false
set_option autoImplicit false
set_option maxRecDepth 100000
set_option maxHeartbeats 4000000
/-! DL5: comprehensions as expressions, statements, defs by their data, calls. -/
namespace DL
open PySem PySem.Spec PyProof.Rows L2

/-- targets of names and pairs of names do what is wanted monotonically -/
def GMo (g : TG) : Prop := ∀ v σ H (P P' : L2.St → Hp → Prop), (∀ σ' H', P σ' H' → P' σ' H') → g v σ H P → g v σ H P'
def GsMo (g : TGs) : Prop := ∀ v σ H (P P' : L2.St → Hp → Prop), (∀ σ' H', P σ' H' → P' σ' H') → g v σ H P → g v σ H P'
theorem gmo_name {i : Nat} : GMo (gName i) := fun v σ H P P' k q => k _ _ q
section
variable {X : Xb} {K : PySem.W.Frag}
theorem df_lc {elt tg iter : Expr} {ifs : List Expr} {scope : Scope} {own : List (Str × Nat)} {pos : Pos} {ti : TI} {wi : WA} {g : TG} {wg : WG} {tt : TT} {wt : WT} {te : TE} {we : WE} (hc : X.calm = true) (hN : X.N.Nodup) (hi : DI X tg iter ti wi) (ok : BlkOk X.N X.env.scope scope own)
    (hg : ∀ (s : Shared) (H : Hp) (C : Addr) (cl : List (Str × Addr)) (fp : List Addr), DG (X.blk s H scope (compEnvC scope cl C X.env) fp) tg g wg) (hgi : GIn g (own.map (·.2))) (hgm : GMo g)
    (ht : ∀ (s : Shared) (H : Hp) (C : Addr) (cl : List (Str × Addr)) (fp : List Addr), DTs (X.blk s H scope (compEnvC scope cl C X.env) fp) ifs tt wt)
    (he : ∀ (s : Shared) (H : Hp) (C : Addr) (cl : List (Str × Addr)) (fp : List Addr), DE (X.blk s H scope (compEnvC scope cl C X.env) fp) elt te we) (hs : ∀ x, foldedSetIterable iter X.env x = pure x := by intro _; rfl) :
    DF X (.ListComp elt [⟨tg, iter, ifs, 0⟩] scope pos) (tLc ti g tt te (own.map (·.2))) (dLc wi wg wt we (own.map (·.2))) :=
  ⟨pe_lc hc hN hi.pi ok (fun s H C cl fp => (hg s H C cl fp).pg) (fun s H C cl fp => (ht s H C cl fp).pt) (fun s H C cl fp => (he s H C cl fp).pe) hs,
   sf_lc hi.si (hg X.s_0 X.H_0 0 [] []).sg.ofBlk hgi hgm (ht X.s_0 X.H_0 0 [] []).st.ofBlk (he X.s_0 X.H_0 0 [] []).se.ofBlk⟩

/-- a datum without parts -/
def flat : D → Prop
  | .lst _ => False
  | .tup _ => False
  | .obj _ _ => False
  | .emp => False
  | _ => True
theorem Den.flat {S S' : Hp} {v : V} {d : D} (h : Den S v d) (f : flat d) : Den S' v d := by
  cases h with
  | non => exact .non
  | bl b => exact .bl b
  | int i => exact .int i
  | str s => exact .str s
  | lst h hl hs => cases f
  | tup h hl hs => cases f
  | obj h hl hn hs => cases f
  | emp h => cases f
  | ref p => exact .ref p
def flats (ds : List D) : Prop := ∀ d ∈ ds, flat d
theorem DenL.flat {S S' : Hp} {xs : List V} {ds : List D} (h : DenL S xs ds) (f : flats ds) : DenL S' xs ds := ⟨h.1, fun i x d h1 h2 => (h.2 i x d h1 h2).flat (f d (List.mem_of_getElem? h2))⟩
/-- what is put into a list: the caller's lists take flat things alone -/
theorem own_den {B : Bs} {S S1 : Hp} {m : Bool} {v : V} {d : D} (h : Den S v d) (f : m = true → DL.flat d) : Den (if m = true then B.SP else S) v d := by
  cases m with
  | true => exact h.flat (f rfl)
  | false => exact h
theorem own_old {B : Bs} {S : Hp} {m : Bool} {p : Addr} {xs : List V} {ds : List D} (h : DenL S xs ds) (f : m = true → p ∈ B.mu ∧ DenL B.SP xs ds) : DenL (if m = true then B.SP else S) xs ds := by
  cases m with
  | true => exact (f rfl).2
  | false => exact h
/-! ### statements -/
inductive Rv where
  | d (d : D) | f (ds : List D) | o (C : Addr) (fs : List (Str × D))
def Rv.val : Rv → D
  | .d x => x | .f xs => .lst xs | .o C fs => .obj C fs
def RvOk (B : Bs) (S H : Hp) (v : V) : Rv → Prop
  | .d d => Den S v d
  | .f ds => ∃ p xs, v = .ref p ∧ S p = none ∧ B.H0 p = none ∧ H p = some (.lst xs) ∧ DenL S xs ds
  | .o C fs => ∃ p dx vs, v = .ref p ∧ S p = none ∧ B.H0 p = none ∧ H p = some (.ins C dx vs) ∧ DenF S vs fs
structure EndsD where
  nx : List Sl → Prop
  rt : Rv → List Sl → Prop
  bk : List Sl → Prop := fun _ => False
  ct : List Sl → Prop := fun _ => False
abbrev WS := EndsD → List Sl → Prop
structure Link (X : Xb) (B : Bs) (S0 : Hp) (Dd : EndsD) (D : Ends) : Prop where
  nx : ∀ S H σ γ, Same S0 S → Rel X B S H σ γ → Dd.nx γ → D.nx σ H
  rt : ∀ S H σ γ v r, Same S0 S → Rel X B S H σ γ → RvOk B S H v r → Dd.rt r γ → D.rt v H
  bk : ∀ S H σ γ, Same S0 S → Rel X B S H σ γ → Dd.bk γ → D.bk σ H
  ct : ∀ S H σ γ, Same S0 S → Rel X B S H σ γ → Dd.ct γ → D.ct σ H
structure SS (X : Xb) (t : TS) (w : WS) : Prop where
  run : ∀ B S0 S H σ γ Dd D, Rel X B S H σ γ → Same S0 S → Link X B S0 Dd D → w Dd γ → t D σ H
structure DS (X : Xb) (st : Stmt) (t : TS) (w : WS) : Prop where
  ps : PS X st t
  ss : SS X t w
structure DSs (X : Xb) (st : List Stmt) (t : TS) (w : WS) : Prop where
  ps : PSs X st t
  ss : SS X t w
variable {e a b : Expr} {te ta tb : TE} {we wa wb : WE} {wf : WF} {pos : Pos} {st : Stmt} {rest sts : List Stmt} {t u : TS} {w w' : WS}
def dNext : WS := fun Dd γ => Dd.nx γ
theorem dss_nil : DSs X [] tNext dNext := ⟨pss_nil, ⟨fun B S0 S H σ γ Dd D R e L q => L.nx S H σ γ e R q⟩⟩
def dSeq (w w' : WS) : WS := fun Dd γ => w { Dd with nx := w' Dd } γ
theorem dss_cons (h : DS X st t w) (h' : DSs X rest u w') : DSs X (st :: rest) (tSeq t u) (dSeq w w') :=
  ⟨pss_cons h.ps h'.ps, ⟨fun B S0 S H σ γ Dd D R e L q => h.ss.run B S0 S H σ γ { Dd with nx := w' Dd } _ R e ⟨fun S1 H1 σ1 γ1 e1 R1 q1 => h'.ss.run B S0 S1 H1 σ1 γ1 Dd D R1 e1 L q1, L.rt, L.bk, L.ct⟩ q⟩⟩
theorem dss_one (h : DS X st t w) : DSs X [st] t w := ⟨pss_one h.ps, h.ss⟩
def dBrk : WS := fun Dd γ => Dd.bk γ
def dCont : WS := fun Dd γ => Dd.ct γ
/-- e -/
def dDrop (we : WE) : WS := fun Dd γ => we γ fun _ γ1 => Dd.nx γ1
/-- return e -/
def dRet (we : WE) : WS := fun Dd γ => we γ fun d γ1 => Dd.rt (.d d) γ1
theorem ds_ret (h : DE X e te we) : DS X (.Return (some e) pos) (tRet te) (dRet we) :=
  ⟨ps_ret h.pe, ⟨fun B S0 S H σ γ Dd D R e L q => h.se.run B S H σ γ _ R (h.se.mono γ _ _ (fun d γ1 q v S1 H1 R1 e1 d1 => L.rt S1 H1 σ γ1 v (.d d) (e.trans e1) R1 d1 q) q)⟩⟩
def dRetF (wf : WF) : WS := fun Dd γ => wf γ fun ds γ1 => Dd.rt (.f ds) γ1
theorem ds_retF (h : DF X e te wf) : DS X (.Return (some e) pos) (tRet te) (dRetF wf) :=
  ⟨ps_ret h.pe, ⟨fun B S0 S H σ γ Dd D R e L q => h.sf.run B S H σ γ _ R (h.sf.mono γ _ _ (fun ds γ1 q p xs S1 H1 R1 e1 k4 => let ⟨U, u1, u2, u3⟩ := R1.unfram; L.rt S1 H1 σ γ1 (.ref p) (.f ds) (e.trans e1) U ⟨p, xs, rfl, u2, u3, u1, k4⟩ q) q)⟩⟩
/-- return of a list of one's own, at a name -/
def dRetO (i : Nat) : WS := fun Dd γ => ∃ ds, γ[i]? = some (.own false ds) ∧ Dd.rt (.f ds) (γ.set i .any)
def dRetN : WS := fun Dd γ => Dd.rt (.d .non) γ
/-- x = e -/
def dSet (i : Nat) (we : WE) : WS := fun Dd γ => we γ fun d γ1 => Dd.nx (γ1.set i (.val d))
theorem ds_set {i : Nat} {x : Str} {px : Pos} (hN : X.N.Nodup) (h : DE X e te we) (hi : X.N[i]? = some x := by rfl) (hx : Loc X.env.scope x := by first | exact Or.inl rfl | exact Or.inr rfl) (hs : swapsWith e (some (.Name x px)) pos.line X.env = pure false := by rfl)
    (hf : X.fn x = true ∨ X.env.scope.names.lookup x = some .local := by first | exact .inl rfl | exact .inr rfl | assumption) : DS X (.Assign [.Name x px] e pos) (tAsg te (gName i)) (dSet i we) :=
  ⟨ps_set hN hi hx h.pe hs hf, ⟨fun B S0 S H σ γ Dd D R e L q => h.se.run B S H σ γ _ R (h.se.mono γ _ _ (fun d γ1 q v S1 H1 R1 e1 d1 => L.nx S1 H1 _ _ (e.trans e1) (R1.set (s := .val d) ⟨v, rfl, d1⟩ rfl) q) q)⟩⟩
/-- x = a new list, kept as one's own -/
def dSetO (i : Nat) (wf : WF) : WS := fun Dd γ => wf γ fun ds γ1 => Dd.nx (γ1.set i (.own false ds))
theorem ds_setO {i : Nat} {x : Str} {px : Pos} (hN : X.N.Nodup) (h : DF X e te wf) (hi : X.N[i]? = some x := by rfl) (hx : Loc X.env.scope x := by first | exact Or.inl rfl | exact Or.inr rfl) (hs : swapsWith e (some (.Name x px)) pos.line X.env = pure false := by rfl)
    (hf : X.fn x = true ∨ X.env.scope.names.lookup x = some .local := by first | exact .inl rfl | exact .inr rfl | assumption) : DS X (.Assign [.Name x px] e pos) (tAsg te (gName i)) (dSetO i wf) :=
  ⟨ps_set hN hi hx h.pe hs hf, ⟨fun B S0 S H σ γ Dd D R e L q => h.sf.run B S H σ γ _ R (h.sf.mono γ _ _ (fun ds γ1 q p xs S1 H1 R1 e1 k4 => L.nx S1 H1 _ _ (e.trans e1) (R1.setOwn k4) q) q)⟩⟩
/-- the list of one's own in slot i is a value from here on -/
def dFrz (i : Nat) (w : WS) : WS := fun Dd γ => ∃ ds, γ[i]? = some (.own false ds) ∧ w Dd (γ.set i (.val (.lst ds)))
/-- a, b = .. -/
def dAsg (we : WE) (wg : WG) : WS := fun Dd γ => we γ fun d γ1 => wg d γ1 Dd.nx
/-- xs[k] = e, xs of one's own -/
def dStI (i : Nat) (we wk : WE) : WS := fun Dd γ => we γ fun d γ1 => (∃ m ds, γ1[i]? = some (.own m ds)) ∧ wk γ1 fun k γ2 => ∃ n m ds j, k = .int n ∧ γ2[i]? = some (.own m ds) ∧ ixN ds.length n = some j ∧ (m = true → flat d) ∧ Dd.nx (γ2.set i (.own m (ds.set j d)))
theorem ds_sub (i : Nat) {x : Str} {px ps : Pos} {k : Expr} {tk : TE} {wk : WE} (h : DE X e te we) (hk : DE X k tk wk) (hN : X.N[i]? = some x := by rfl) (hv : Vis X.env.scope x := by first | exact Or.inl rfl | exact Or.inr (Or.inl rfl) | exact Or.inr (Or.inr rfl)) (hd : (x == ("__debug__" : Str)) = false := by decide)
    (hcd : (x == ("__classdict__" : Str)) = false := by decide) (ha : ∀ v, assign (.Subscript (.Name x px) k ps) X.env v = (do
      let ov ← holding [v] (eval (.Name x px) X.env)
      let iv ← holding [v, ov] (eval k X.env)
      standAt ps
      holding [v, ov, iv] (setItem ov iv v)
      release [v, ov, iv] []) := by intro _; rfl) (hs : swapsWithSole [.Subscript (.Name x px) k ps] e pos.line X.env = pure false := by rfl) (hw : swappedStores [.Subscript (.Name x px) k ps] e X.env = pure none := by rfl)
    (h1 : (assignEach [.Subscript (.Name x px) k ps] X.env).map (·.2) = [assign (.Subscript (.Name x px) k ps) X.env] := by rfl) : DS X (.Assign [.Subscript (.Name x px) k ps] e pos) (tAsg te (gSub (tVar i) tk rSetL)) (dStI i we wk) :=
  ⟨ps_asg h.pe (pg_sub (pe_var hN hv hd hcd) hk.pe set_list ha) hs hw h1, ⟨fun B S0 S H σ γ Dd D R e L q => h.se.run B S H σ γ _ R (h.se.mono γ _ _ (fun d γ1 ⟨⟨m0, ds0, g0⟩, q⟩ v S1 H1 R1 e1 d1 => by
    obtain ⟨p0, xs0, f0, _⟩ := R1.sl i _ g0
    refine ⟨_, f0, ?_⟩
    refine hk.se.run B S1 H1 σ γ1 _ R1 (hk.se.mono γ1 _ _ (fun y γ2 ⟨n, m, ds, j, k1, k2, k3, kf, q⟩ u S2 H2 R2 e2 d2 => ?_) q)
    subst k1
    cases d2
    obtain ⟨p, xs, g1, g2, g3, g4, g5⟩ := R2.sl i _ k2
    rw [f0] at g1
    cases g1
    refine ⟨p0, xs, n, j, rfl, rfl, g3, by rw [g4.1]; exact k3, ?_⟩
    exact L.nx S2 _ σ _ (e.trans (e1.trans e2)) (R2.chg k2 f0 ((own_old g4 g5).set (own_den (S1 := S2) (d1.mono e2) kf) j)) q) q)⟩⟩
/-- xs.append(e) -/
def dApp (i : Nat) (we : WE) : WS := fun Dd γ => (∃ m ds, γ[i]? = some (.own m ds)) ∧ we γ fun d γ1 => ∃ m ds, γ1[i]? = some (.own m ds) ∧ ds.length < sizeLine ∧ (m = true → flat d) ∧ Dd.nx (γ1.set i (.own m (ds ++ [d])))
/-- xs.extend(e) -/
def dExt (i : Nat) (we : WE) : WS := fun Dd γ => (∃ m ds, γ[i]? = some (.own m ds)) ∧ we γ fun d γ1 => ∃ es m ds, d = .lst es ∧ γ1[i]? = some (.own m ds) ∧ ds.length + es.length ≤ sizeLine ∧ (m = true → flats es) ∧ Dd.nx (γ1.set i (.own m (ds ++ es)))
/-- x += e of ints -/
def dAug (i : Nat) (f : Int → Int → Int) (we : WE) : WS := fun Dd γ => ∃ n, γ[i]? = some (.val (.int n)) ∧ we γ fun d γ1 => ∃ k, d = .int k ∧ Dd.nx (γ1.set i (.val (.int (f n k))))
/-- if -/
def dIf (wc : WT) (w w' : WS) : WS := fun Dd γ => wc γ fun b γ1 => if b = true then w Dd γ1 else w' Dd γ1
theorem ds_if {c : Expr} {p q : List Stmt} {tc : TT} {wc : WT} (hc : DT X c tc wc) (h : DSs X p t w) (h' : DSs X q u w') : DS X (.If c p q pos) (tIfS tc t u) (dIf wc w w') :=
  ⟨ps_if hc.pt h.ps h'.ps, ⟨fun B S0 S H σ γ Dd D R e L q => hc.st.run B S H σ γ _ R (hc.st.mono γ _ _ (fun b γ1 q S1 H1 R1 e1 => by
    cases b with
    | true => exact h.ss.run B S0 S1 H1 σ γ1 Dd D R1 (e.trans e1) L q
    | false => exact h'.ss.run B S0 S1 H1 σ γ1 Dd D R1 (e.trans e1) L q) q)⟩⟩
/-- an if whose ways meet: what is known behind it is said once -/
def dCut (w w' : WS) : WS := fun Dd γ => ∃ M : List Sl → Prop, w { Dd with nx := M } γ ∧ ∀ γ', M γ' → w' Dd γ'
theorem dss_cut (h : DS X st t w) (h' : DSs X rest u w') : DSs X (st :: rest) (tSeq t u) (dCut w w') :=
  ⟨pss_cons h.ps h'.ps, ⟨fun B S0 S H σ γ Dd D R e L ⟨M, q, k⟩ => h.ss.run B S0 S H σ γ { Dd with nx := M } _ R e ⟨fun S1 H1 σ1 γ1 e1 R1 q1 => h'.ss.run B S0 S1 H1 σ1 γ1 Dd D R1 e1 L (k _ q1), L.rt, L.bk, L.ct⟩ q⟩⟩
/-- for -/
def dFor (wi : WA) (wg : WG) (wb : WS) : WS := fun Dd γ => wi γ fun ds γ1 => ∃ I : Nat → List Sl → Prop, I 0 γ1 ∧ (∀ i d γ, ds[i]? = some d → I i γ → wg d γ fun γ2 => wb { Dd with nx := I (i + 1), ct := I (i + 1), bk := Dd.nx } γ2) ∧ ∀ γ, I ds.length γ → Dd.nx γ
theorem ss_for {ti : TI} {wi : WA} {g : TG} {wg : WG} {tb : TS} {wb : WS} (hi : SI X ti wi) (hg : SG X g wg) (hb : SS X tb wb) : SS X (tFor ti g tb) (dFor wi wg wb) := by
  refine ⟨fun B S0 S H σ γ Dd D R e L q => ?_⟩
  refine hi.run B S H σ γ _ R (hi.mono γ _ _ (fun ds γ1 ⟨I, h0, hs, hd⟩ J S1 H1 R1 e1 hJ => ?_) q)
  refine ⟨fun i m σ H => m = ds.length - i ∧ i ≤ ds.length ∧ ∃ S2 γ2, Rel X B S2 H σ γ2 ∧ Same S1 S2 ∧ I i γ2, ⟨ds.length, by simp, Nat.zero_le _, S1, γ1, R1, Same.refl S1, h0⟩, ?_⟩
  rintro i m σ2 H2 ⟨rfl, hi2, S2, γ2, R2, e2, hI⟩
  by_cases hlt : i < ds.length
  · refine .inr ⟨(hJ.mono e2).go i H2 R2.same hlt, fun σ' H' => i + 1 ≤ ds.length ∧ ∃ S3 γ3, Rel X B S3 H' σ' γ3 ∧ Same S1 S3 ∧ I (i + 1) γ3, fun σ' H' q => ⟨_, by omega, rfl, q⟩, fun x H' y => ?_⟩
    obtain ⟨d, hdi, hy⟩ := (hJ.mono e2).yld i H2 x H' R2.same hlt y
    have body := hs i d γ2 hdi hI
    obtain ⟨S3, R3, e3, d3⟩ : ∃ S3, Rel X B S3 H' σ2 γ2 ∧ Same S2 S3 ∧ Den S3 x d := by
      rcases hy with ⟨f1, f2⟩ | ⟨T, ys, es, f1, f2, f3, f4, f5⟩
      · subst f1; exact ⟨S2, R2, Same.refl S2, f2⟩
      · subst f1 f3 f4
        have e4 : Same S2 (upd S2 T (.tup ys)) := Same.upd (Same.refl S2) (R2.freshS f2)
        exact ⟨_, R2.new f2, e4, .ofT upd_same (f5.mono e4)⟩
    refine hg.run B S3 H' σ2 γ2 x d _ R3 d3 (hg.mono _ _ _ _ (fun γ4 body σ4 R4 => ?_) body)
    have e5 : Same S1 S3 := e2.trans e3
    have e6 : Same S0 S1 := e.trans e1
    refine hb.run B S3 S3 H' σ4 γ4 { Dd with nx := I (i + 1), ct := I (i + 1), bk := Dd.nx } _ R4 (Same.refl S3) ⟨fun S6 H6 σ6 γ6 k R6 q => ⟨hlt, S6, γ6, R6, e5.trans k, q⟩, fun S6 H6 σ6 γ6 v r k R6 rv q => L.rt S6 H6 σ6 γ6 v r (e6.trans (e5.trans k)) R6 rv q, fun S6 H6 σ6 γ6 k R6 q => L.nx S6 H6 σ6 γ6 (e6.trans (e5.trans k)) R6 q, fun S6 H6 σ6 γ6 k R6 q => ⟨hlt, S6, γ6, R6, e5.trans k, q⟩⟩ body
  · have e' : i = ds.length := by omega
    subst e'
    exact .inl ⟨(hJ.mono e2).stop _ H2 R2.same (Nat.le_refl _), L.nx S2 H2 σ2 γ2 ((e.trans e1).trans e2) R2 (hd γ2 hI)⟩
theorem ds_for {tg iter : Expr} {body : List Stmt} {ti : TI} {wi : WA} {g : TG} {wg : WG} {tb : TS} {wb : WS} (hp : PassesOwn (model X.prog X.w) X.A X.env X.xe) (hc : X.calm = true) (hi : DI X tg iter ti wi) (hg : DG X tg g wg) (hb : DSs X body tb wb)
    (hs : ∀ x, foldedSetIterable iter X.env x = pure x := by intro _; rfl) : DS X (.For tg iter body [] pos) (tFor ti g tb) (dFor wi wg wb) :=
  ⟨ps_for hp hc hi.pi hg.pg hb.ps hs, ss_for hi.si hg.sg hb.ss⟩
end

/-! ### defs -/
structure SpecD where
  S : List D → (Rv → Prop) → Prop
  mono : ∀ ds P P', (∀ r, P r → P' r) → S ds P → S ds P'
/-- a promise by parameters: the arguments, what is asked, what comes -/
def SpecD.of {α : Type} (args : α → List D) (pre : α → Prop) (post : α → Rv → Prop) : SpecD := ⟨fun ds Q => ∃ a, ds = args a ∧ pre a ∧ ∀ r, post a r → Q r, fun ds P P' k ⟨a, e, h, q⟩ => ⟨a, e, h, fun r hr => k r (q r hr)⟩⟩
structure SpecP where
  S : List D → List D → (Rv → List D → Prop) → Prop
  mono : ∀ pl ds P P', (∀ r pl, P r pl → P' r pl) → S pl ds P → S pl ds P'
def SpecP.of {α : Type} (args : α → List D) (pool : List D → Prop) (pre : α → Prop) (post : α → Rv → Prop) : SpecP :=
  ⟨fun pl ds Q => pool pl ∧ ∃ a, ds = args a ∧ pre a ∧ ∀ r pl', post a r → pool pl' → Q r pl', fun pl ds P P' k ⟨h0, a, e, h, q⟩ => ⟨h0, a, e, h, fun r pl' hr hp => k r pl' (q r pl' hr hp)⟩⟩
def spV (K : PySem.W.Frag) (s : SpecD) : Sp := fun vs H Q _ => ∃ S ds, Same S H ∧ DenL S vs ds ∧ s.S ds fun r => ∀ v S' H', Rel0 K ⟨H, S, [], [], emptyH⟩ S' H' [] [] → RvOk ⟨H, S, [], [], emptyH⟩ S' H' v r → Q v H'
def spP (K : PySem.W.Frag) (s : SpecP) : Sp := fun vs H Q _ => ∃ S SP p xs pl vs' ds, vs = .ref p :: vs' ∧ Same S H ∧ Same SP S ∧ S p = none ∧ H p = some (.lst xs) ∧ DenL SP xs pl ∧ DenL S vs' ds ∧
  s.S pl ds fun r pl' => ∀ v S' H' xs', Rel0 K ⟨H, S, [p], [], SP⟩ S' H' [] [] → S' p = none → H' p = some (.lst xs') → DenL SP xs' pl' → RvOk ⟨H, S, [p], [], SP⟩ S' H' v r → Q v H'
section
variable {K : PySem.W.Frag} {B : Bs} {S S' H H' : Hp} {σ : L2.St} {γ : List Sl}
end
section
variable {X : Xb} {K : PySem.W.Frag} {f : Addr} {fd : FuncData} {ps : List Str} {k : Nat} {x : Str} {e : Expr} {es : List Expr} {t : TA} {w : WA} {p pos : Pos}
def dCallS (s : SpecD) (w : WA) : WE := fun γ Q => w γ fun ds γ1 => s.S ds fun r => Q r.val γ1
theorem se_callS {s : SpecD} {t : TA} {w : WA} (h : SA X t w) : SE X (tCall (spV X.K s) [] E0 t) (dCallS s w) := by
  refine ⟨fun γ P P' k q => h.mono γ _ _ (fun ds γ1 q => s.mono _ _ _ (fun r q => k _ _ q) q) q, fun B S H σ γ Q R q => ?_⟩
  refine h.run B S H σ γ _ R (h.mono γ _ _ (fun ds γ1 q vs S1 H1 R1 e1 d1 => ?_) q)
  rw [List.append_nil]
  refine ⟨S1, ds, R1.same, d1, s.mono _ _ _ (fun r q v S' H' C rv => ?_) q⟩
  cases r with
  | d d => exact q v S' H' (R1.call C) (e1.trans C.grow) rv
  | f ds' =>
    obtain ⟨a, xs, rfl, k1, k2, k3, k4⟩ := rv
    have k2' : H1 a = none := k2
    have e6 : Same S' (upd S' a (.lst xs)) := Same.upd (Same.refl S') k1
    exact q (.ref a) _ H' (R1.callN C k2' k3 k1).frzF (e1.trans (C.grow.trans e6)) (.ofL upd_same (k4.mono e6))
  | o C' fs =>
    obtain ⟨a, dx, xs, rfl, k1, k2, k3, k4⟩ := rv
    have k2' : H1 a = none := k2
    have e6 : Same S' (upd S' a (.ins C' dx xs)) := Same.upd (Same.refl S') k1
    exact q (.ref a) _ H' (R1.callN C k2' k3 k1).frzF (e1.trans (C.grow.trans e6)) (.ofO upd_same (k4.mono e6))
def dCallF (s : SpecD) (w : WA) : WF := fun γ Q => w γ fun ds γ1 => s.S ds fun r => ∃ es, r = .f es ∧ Q es γ1
theorem de_call (K' : PySem.W.Frag) {s : SpecD} (F : FnOk X.prog X.w X.K X.mg X.base CX0 k f fd ps (spV K' s)) (hr : Room k X.A) (hm : X.mg x = some (.ref f)) (hk : PySem.W.keepIn X.K (.ref f) = true) (hb : Binds X.K fd ps []) (ha : DA X (e :: es) t w) (hg : Gl X x := by rfl)
    (hdb : (x == ("__debug__" : Str)) = false := by decide) (he : starEach (e :: es) X.env = (false, eval e X.env) :: starEach es X.env := by rfl) (hpl : (backTo pos (starEach es X.env)).any (·.1) = false := by rfl) (hK : X.K = K' := by rfl) : DE X (.Call (.Name x p) (e :: es) [] pos) (tCall (spV K' s) [] E0 t) (dCallS s w) := by
  subst hK
  exact ⟨pe_call F hr hg hm hk hb .nil pass0 ha.pa hdb he hpl, se_callS ha.sa⟩
/-- a call that draws from the list in slot i -/
def dCallP (i : Nat) (s : SpecP) (w : WA) : WE := fun γ Q => (∃ m pl, γ[i]? = some (.own m pl)) ∧ w γ fun ds γ1 => ∃ m pl, γ1[i]? = some (.own m pl) ∧ s.S pl ds fun r pl' => Q r.val (γ1.set i (.own m pl'))
theorem se_callP {i : Nat} {s : SpecP} {t : TA} {w : WA} (h : SA X t w) : SE X (tCall (spP X.K s) [] E0 (tCons (tVar i) t)) (dCallP i s w) := by
  refine ⟨fun γ P P' k q => ⟨q.1, h.mono γ _ _ (fun ds γ1 ⟨m, pl, e, q⟩ => ⟨m, pl, e, s.mono _ _ _ _ (fun r pl' q => k _ _ q) q⟩) q.2⟩, fun B S H σ γ Q R q => ?_⟩
  obtain ⟨⟨m0, pl0, g0⟩, q⟩ := q
  obtain ⟨p0, xs0, f0, _⟩ := R.sl i _ g0
  refine ⟨_, f0, ?_⟩
  refine h.run B S H σ γ _ R (h.mono γ _ _ (fun ds γ1 ⟨m, pl, g, q⟩ vs S1 H1 R1 e1 d1 => ?_) q)
  show spP X.K s ((.ref p0 :: vs) ++ []) H1 Q E0
  rw [List.append_nil]
  obtain ⟨p, xs, g1, g2, g3, g4, g5⟩ := R1.sl i _ g
  rw [f0] at g1
  cases g1
  have spS : Same (if m = true then B.SP else S1) S1 := by
    obtain ⟨φ, r⟩ := R1.r
    cases m with
    | true => exact r.spS.trans r.grow
    | false => exact Same.refl _
  refine ⟨S1, (if m = true then B.SP else S1), p0, xs, pl, vs, ds, rfl, R1.same, spS, g2, g3, own_old g4 g5, d1, s.mono _ _ _ _ (fun r pl' q v S' H' xs' C k1 k2 k3' rv => ?_) q⟩
  have k3 : DenL (if m = true then B.SP else S') xs' pl' := by
    cases m with
    | true => exact k3'
    | false => exact DenL.mono k3' C.grow
  have R2 := R1.callP g f0 C k1 k2 k3
  cases r with
  | d d => exact q v S' H' R2 (e1.trans C.grow) rv
  | f ds' =>
    obtain ⟨a, ys, rfl, l1, l2, l3, l4⟩ := rv
    have l2' : H1 a = none := l2
    have e6 : Same S' (upd S' a (.lst ys)) := Same.upd (Same.refl S') l1
    exact q (.ref a) _ H' (R1.callPN g f0 C k1 k2 k3 l2' l3 l1).frzF (e1.trans (C.grow.trans e6)) (.ofL upd_same (l4.mono e6))
  | o C' fs =>
    obtain ⟨a, dx, ys, rfl, l1, l2, l3, l4⟩ := rv
    have l2' : H1 a = none := l2
    have e6 : Same S' (upd S' a (.ins C' dx ys)) := Same.upd (Same.refl S') l1
    exact q (.ref a) _ H' (R1.callPN g f0 C k1 k2 k3 l2' l3 l1).frzF (e1.trans (C.grow.trans e6)) (.ofO upd_same (l4.mono e6))
theorem de_callP (K' : PySem.W.Frag) (i : Nat) {s : SpecP} {y : Str} {py : Pos} (F : FnOk X.prog X.w X.K X.mg X.base CX0 k f fd ps (spP K' s)) (hr : Room k X.A) (hm : X.mg x = some (.ref f)) (hk : PySem.W.keepIn X.K (.ref f) = true) (hb : Binds X.K fd ps []) (ha : DA X es t w) (hN : X.N[i]? = some y := by rfl) (hv : Vis X.env.scope y := by first | exact Or.inl rfl | exact Or.inr (Or.inl rfl) | exact Or.inr (Or.inr rfl)) (hd : (y == ("__debug__" : Str)) = false := by decide)
    (hcd : (y == ("__classdict__" : Str)) = false := by decide) (hg : Gl X x := by rfl)
    (hdb : (x == ("__debug__" : Str)) = false := by decide) (he : starEach (.Name y py :: es) X.env = (false, eval (.Name y py) X.env) :: starEach es X.env := by rfl) (hpl : (backTo pos (starEach es X.env)).any (·.1) = false := by rfl) (hK : X.K = K' := by rfl) : DE X (.Call (.Name x p) (.Name y py :: es) [] pos) (tCall (spP K' s) [] E0 (tCons (tVar i) t)) (dCallP i s w) := by
  subst hK
  exact ⟨pe_call F hr hg hm hk hb .nil pass0 (pa_cons (pe_var hN hv hd hcd) ha.pa he) hdb he hpl, se_callP ha.sa⟩
end

/-! ### a def's body to its promise -/
def gam (N : List Str) (ds : List D) : List Sl := ds.map .val ++ List.replicate (N.length - ds.length) .any
section
variable {P : Program} {w : World} {K : PySem.W.Frag} {mg : Str → Option Value} {base : Heap} {x qual : Str} {st : Stmt} {f : Addr} {fd : FuncData} {N ps : List Str} {k : Nat}
theorem gam_may {N : List Str} {ds : List D} {i : Nat} {s : Sl} (h : (gam N ds)[i]? = some s) : s.may = none := by
  unfold gam at h
  by_cases hi : i < ds.length
  · rw [List.getElem?_append_left (by simpa using hi), List.getElem?_map] at h
    rw [List.getElem?_eq_getElem hi] at h
    cases h
    rfl
  · rw [List.getElem?_append_right (by simpa using hi), List.getElem?_replicate] at h
    split at h
    · cases h; rfl
    · cases h
theorem start_rel {H S : Hp} {vs : List V} {ds : List D} (e : Same S H) (hd : DenL S vs ds) : Rel0 K ⟨H, S, [], [], emptyH⟩ S H (L2.start N vs) (gam N ds) := by
  refine ⟨fun _ => emptyH, e, fun a o h _ => h, fun a ha => (by cases ha), Same.refl S, fun a o h => .inl h, ?_, fun i s h => ?_, fun i a o e => (by cases e), fun i a o e => (by cases e), fun i j a o u _ e => (by cases e), fun i a o e => (by cases e), fun p o hp => (by cases hp), List.nodup_nil, fun a o e => (by cases e)⟩
  · unfold L2.start gam
    simp [hd.1]
  · have hm := gam_may h
    unfold gam at h
    by_cases hi : i < ds.length
    · rw [List.getElem?_append_left (by simpa using hi), List.getElem?_map] at h
      obtain ⟨d, hdi⟩ : ∃ d, ds[i]? = some d := ⟨_, List.getElem?_eq_getElem hi⟩
      rw [hdi] at h
      cases h
      obtain ⟨v, hv, dn⟩ := hd.get hdi
      refine ⟨v, ?_, dn⟩
      unfold L2.start
      rw [List.getElem?_append_left (by simpa [hd.1] using hi), List.getElem?_map, hv]
      rfl
    · rw [List.getElem?_append_right (by simpa using hi), List.getElem?_replicate] at h
      split at h
      · cases h; trivial
      · cases h
/-- THE RULE for a def that raises nothing -/
theorem fn_ok {s : SpecD} (F : Fun K x qual st f fd) (Sc : FnScope N ps (defScope st)) (len : ∀ ds Q, s.S ds Q → ds.length = ps.length)
    (hbody : ∀ (cdv : Value) (A : Around) (outer : List Env) (s0 : Shared) (H : Hp) (E : XK), Room k (A.deeper (envOfC qual (defScope st) s0.heap.objs.size f cdv)) →
      ∃ t w', DSs (Xb.of (cxOf CX0 P w K mg base N qual (defScope st) f cdv A outer s0 H E).nox) (defBody st) t w' ∧ ∀ ds Q, s.S ds Q → w' { nx := fun _ => Q (.d .non), rt := fun r _ => Q r } (gam N ds)) : FnOk P w K mg base CX0 (k + 1) f fd ps (spV K s) := by
  refine F.ok Sc (fun vs H Q E h => ?_) (fun cdv A outer s0 H vs Q E hr h => ?_)
  · obtain ⟨S, ds, e, hd, q⟩ := h
    rw [hd.1]
    exact len _ _ q
  · obtain ⟨S, ds, e, hd, q⟩ := h
    obtain ⟨t, w', h1, h2⟩ := hbody cdv A outer s0 H E hr
    refine ⟨t, h1.ps, ?_⟩
    exact h1.ss.run ⟨H, S, [], [], emptyH⟩ S S H (L2.start N vs) (gam N ds) { nx := fun _ => _, rt := fun r _ => _ } _ (Rel0.of (start_rel e hd)) (Same.refl S) ⟨fun S' H' σ' γ' _ R q => q _ _ _ R.nil .non, fun S' H' σ' γ' v r _ R rv q => q v _ _ R.nil rv, fun S' H' σ' γ' _ R q => q.elim, fun S' H' σ' γ' _ R q => q.elim⟩ (h2 ds _ q)
def gamP (N : List Str) (pl ds : List D) : List Sl := .own true pl :: (ds.map .val ++ List.replicate (N.length - (ds.length + 1)) .any)
theorem start_relT {H S SP : Hp} {p : Addr} {o : HO} {s : Sl} {vs : List V} {ds : List D} (e : Same S H) (eP : Same SP S) (h1 : S p = none) (h2 : H p = some o) (hs : SlF K ⟨H, S, [p], [], SP⟩ S (upd emptyH p o) (some (some (.ref p))) s) (hm : s.may = some true) (hd : DenL S vs ds) : Rel0 K ⟨H, S, [p], [], SP⟩ S H (L2.start N (.ref p :: vs)) (s :: (ds.map .val ++ List.replicate (N.length - (ds.length + 1)) .any)) := by
  have es : L2.start N (.ref p :: vs) = some (.ref p) :: (vs.map some ++ List.replicate (N.length - (vs.length + 1)) none) := rfl
  have em : ∀ {j a u}, (if j = 0 then L2.upd emptyH p o else emptyH) a = some u → j = 0 ∧ a = p ∧ u = o := fun {j a u} e => by
    by_cases hj : j = 0
    · rw [if_pos hj] at e
      by_cases ha : a = p
      · subst ha; rw [upd_same] at e; cases e; exact ⟨hj, rfl, rfl⟩
      · rw [upd_ne ha] at e; cases e
    · rw [if_neg hj] at e; cases e
  refine ⟨fun j => if j = 0 then L2.upd emptyH p o else emptyH, e, fun a o h _ => h, fun a ha => ?_, Same.refl S, fun a o h => .inl h, ?_, fun i t h => ?_, fun i a u e => ?_, fun i a u e => ?_, fun i j a u v hij e1 e2 => ?_, fun i a u e => ?_, fun p o hp => (by cases hp), List.nodup_nil, eP⟩
  · have : a = p := List.mem_singleton.mp ha
    subst this
    exact ⟨h1, ⟨_, h2⟩, o, h2⟩
  · rw [es]
    simp [hd.1]
  · rw [es]
    cases i with
    | zero => cases h; exact hs
    | succ i =>
      rw [List.getElem?_cons_succ] at h ⊢
      by_cases hi : i < ds.length
      · rw [List.getElem?_append_left (by simpa using hi), List.getElem?_map] at h
        obtain ⟨d, hdi⟩ : ∃ d, ds[i]? = some d := ⟨_, List.getElem?_eq_getElem hi⟩
        rw [hdi] at h
        cases h
        obtain ⟨v, hv, dn⟩ := hd.get hdi
        refine ⟨v, ?_, dn⟩
        rw [List.getElem?_append_left (by simpa [hd.1] using hi), List.getElem?_map, hv]
        rfl
      · rw [List.getElem?_append_right (by simpa using hi), List.getElem?_replicate] at h
        split at h
        · cases h; trivial
        · cases h
  · obtain ⟨_, z, z'⟩ := em e; subst z z'; exact h2
  · obtain ⟨_, z, z'⟩ := em e; subst z z'; exact h1
  · exact hij ((em e1).1.trans (em e2).1.symm)
  · obtain ⟨z0, z, z'⟩ := em e
    subst z0 z z'
    refine ⟨s, true, rfl, hm, .inl ⟨rfl, ?_⟩⟩
    cases s with
    | hp m L => exact List.mem_singleton.mpr rfl
    | _ => exact rfl
theorem start_relP {H S SP : Hp} {p : Addr} {xs : List V} {pl : List D} {vs : List V} {ds : List D} (e : Same S H) (eP : Same SP S) (h1 : S p = none) (h2 : H p = some (.lst xs)) (h3 : DenL SP xs pl) (hd : DenL S vs ds) : Rel0 K ⟨H, S, [p], [], SP⟩ S H (L2.start N (.ref p :: vs)) (gamP N pl ds) :=
  start_relT e eP h1 h2 (s := .own true pl) ⟨p, xs, rfl, upd_same, h3, fun _ => List.mem_singleton.mpr rfl⟩ rfl hd
/-- THE RULE for a def that draws from a list handed in first -/
theorem fn_okP {s : SpecP} (F : Fun K x qual st f fd) (Sc : FnScope N ps (defScope st)) (len : ∀ pl ds Q, s.S pl ds Q → ds.length + 1 = ps.length)
    (hbody : ∀ (cdv : Value) (A : Around) (outer : List Env) (s0 : Shared) (H : Hp) (E : XK), Room k (A.deeper (envOfC qual (defScope st) s0.heap.objs.size f cdv)) →
      ∃ t w', DSs (Xb.of (cxOf CX0 P w K mg base N qual (defScope st) f cdv A outer s0 H E).nox) (defBody st) t w' ∧ ∀ pl ds Q, s.S pl ds Q → w' { nx := fun γ => ∃ pl', γ[0]? = some (.own true pl') ∧ Q (.d .non) pl', rt := fun r γ => ∃ pl', γ[0]? = some (.own true pl') ∧ Q r pl' } (gamP N pl ds)) : FnOk P w K mg base CX0 (k + 1) f fd ps (spP K s) := by
  refine F.ok Sc (fun vs H Q E h => ?_) (fun cdv A outer s0 H vs Q E hr h => ?_)
  · obtain ⟨S, SP, p, xs, pl, vs', ds, rfl, e, eP, h1, h2, h3, hd, q⟩ := h
    rw [List.length_cons, hd.1]
    exact len _ _ _ q
  · obtain ⟨S, SP, p, xs, pl, vs', ds, rfl, e, eP, h1, h2, h3, hd, q⟩ := h
    obtain ⟨t, w', k1, k2⟩ := hbody cdv A outer s0 H E hr
    refine ⟨t, k1.ps, ?_⟩
    have fin : ∀ {S' H' : Hp} {σ' : L2.St} {γ' : List Sl} {pl' : List D}, Rel0 K ⟨H, S, [p], [], SP⟩ S' H' σ' γ' → γ'[0]? = some (.own true pl') → ∃ xs', S' p = none ∧ H' p = some (.lst xs') ∧ DenL SP xs' pl' := fun {S' H' σ' γ' pl'} R g => by
      obtain ⟨q, ys, f1, f2, f3, f4, f5⟩ := R.sl 0 _ g
      have : q = p := List.mem_singleton.mp (f5 rfl).1
      subst this
      exact ⟨ys, f2, f3, (f5 rfl).2⟩
    exact k1.ss.run ⟨H, S, [p], [], SP⟩ S S H _ (gamP N pl ds) { nx := fun γ => ∃ pl', γ[0]? = some (.own true pl') ∧ _, rt := fun r γ => ∃ pl', γ[0]? = some (.own true pl') ∧ _ } _ (Rel0.of (start_relP e eP h1 h2 h3 hd)) (Same.refl S) ⟨fun S' H' σ' γ' _ R ⟨pl', g, q⟩ => by
        obtain ⟨ys, f2, f3, f4⟩ := fin R.r g
        exact q _ _ _ ys R.nil f2 f3 f4 .non, fun S' H' σ' γ' v r _ R rv ⟨pl', g, q⟩ => by
        obtain ⟨ys, f2, f3, f4⟩ := fin R.r g
        exact q v _ _ ys R.nil f2 f3 f4 rv, fun S' H' σ' γ' _ R q => q.elim, fun S' H' σ' γ' _ R q => q.elim⟩ (k2 pl ds _ q)
end
end DL
set_option Elab.async false
set_option linter.all false
set_option autoImplicit false
set_option maxRecDepth 100000
set_option maxHeartbeats 4000000
/-! DL6: chains, isinstance, list(..), list + list, products. -/
namespace DL
open PySem PySem.Spec PyProof.Rows L2
section
variable {X : Xb} {K : PySem.W.Frag} {a b c e : Expr} {ta tb tc te : TE} {wa wb wc we : WE} {pos p : Pos}
/-! ### a op b op' c -/
def dChain (f f' : D → D → (D → Prop) → Prop) (wa wb wc : WE) : WE := fun γ Q => wa γ fun x γ1 => wb γ1 fun y γ2 => f x y fun z => ∃ k, z = .bl k ∧ if k = true then wc γ2 fun u γ3 => f' y u fun d => Q d γ3 else Q (.bl false) γ2
def fLt := dI0 fun i j => .bl (decide (i < j))
def fLe := dI0 fun i j => .bl (decide (i ≤ j))
/-! ### products of any ints that the machine takes -/
theorem op_mulK : OpR X (binaryOp .Mult) (rI IntMulOk fun i j => .int (i * j)) := opI fun _ _ _ _ _ _ _ hc q => mul_int q hc
abbrev dMulK := dOp (dI IntMulOk fun i j => .int (i * j))
theorem de_mulK (ha : DE X a ta wa) (hb : DE X b tb wb) : DE X (.BinOp a .Mult b pos) (tOp (rI IntMulOk fun i j => .int (i * j)) ta tb) (dMulK wa wb) := de_op op_mulK (ops_I fun _ _ _ => .int _) ha hb

/-! ### isinstance -/
/-- what is asked of an own class of the text (no class stands under it) -/
structure OwnCls (K : PySem.W.Frag) (C : Addr) : Prop where
  cl : Cls K C
  ha : PySem.W.findIn K (.ref C) "__class__" = some (some (.builtin "object.__class__"))
  hn : PySem.W.specialIn K (.builtin "object.__class__") "__get__" = some (some (.builtin "getset_descriptor.__get__"))
  htk : PySem.W.takesIn K (.builtin "object.__class__") = some true
  hm : PySem.W.mroIn K C (.type "object") = some true
  no : ∀ T ∈ tysD, PySem.W.kitOne K (.ref C) (.type T) = some false
  is : PySem.W.kitOne K (.ref C) (.ref C) = some true
  ty : ∀ T ∈ tysD, PySem.W.kitOne K (.type T) (.ref C) = some false
def tyD : D → String
  | .non => "NoneType" | .bl _ => "bool" | .int _ => "int" | .str _ => "str" | .lst _ => "list" | .tup _ => "tuple" | .obj _ _ => "object" | .emp => "dict" | .ref _ => "dict"
def tyV : D → Value
  | .obj C _ => .ref C
  | d => .type (tyD d)
/-- the datum's class is known -/
def okC (K : PySem.W.Frag) : D → Prop
  | .obj C _ => OwnCls K C
  | .ref _ => False
  | _ => True
theorem den_ty {S H : Hp} {v : V} {d : D} (h : Den S v d) (e : Same S H) (ok : okC K d) : TyX K H v (tyV d) := by
  cases h with
  | non => exact .base .non
  | bl b => exact .base (.bl b)
  | int i => exact .base (.int i)
  | str s => exact .base (.str s)
  | lst h hl hs => exact .base (.lst (e _ _ h))
  | tup h hl hs => exact .base (.tup (e _ _ h))
  | obj h hl hn hs => exact .base (.ins (e _ _ h) ok.cl ok.ha ok.hn ok.htk ok.hm)
  | emp h => exact .base (.dK (e _ _ h))
  | ref p => exact ok.elim
def isB : D → Bool | .bl _ => true | _ => false
def isI : D → Bool | .bl _ => true | .int _ => true | _ => false
def isS : D → Bool | .str _ => true | _ => false
def isL : D → Bool | .lst _ => true | _ => false
def isU : D → Bool | .tup _ => true | _ => false
def isO (C : Addr) : D → Bool | .obj C' _ => C' == C | _ => false
theorem kit_B : ∀ d, okC K d → PySem.W.kitOne K (tyV d) (.type "bool") = some (isB d)
  | .non, _ => kit_ty (by show kitB "NoneType" "bool" = some false; decide +kernel)
  | .bl _, _ => kit_ty (by show kitB "bool" "bool" = some true; decide +kernel)
  | .int _, _ => kit_ty (by show kitB "int" "bool" = some false; decide +kernel)
  | .str _, _ => kit_ty (by show kitB "str" "bool" = some false; decide +kernel)
  | .lst _, _ => kit_ty (by show kitB "list" "bool" = some false; decide +kernel)
  | .tup _, _ => kit_ty (by show kitB "tuple" "bool" = some false; decide +kernel)
  | .emp, _ => kit_ty (by show kitB "dict" "bool" = some false; decide +kernel)
  | .obj C _, ok => ok.no _ (by decide)
  | .ref _, ok => ok.elim
theorem kit_I : ∀ d, okC K d → PySem.W.kitOne K (tyV d) (.type "int") = some (isI d)
  | .non, _ => kit_ty (by show kitB "NoneType" "int" = some false; decide +kernel)
  | .bl _, _ => kit_ty (by show kitB "bool" "int" = some true; decide +kernel)
  | .int _, _ => kit_ty (by show kitB "int" "int" = some true; decide +kernel)
  | .str _, _ => kit_ty (by show kitB "str" "int" = some false; decide +kernel)
  | .lst _, _ => kit_ty (by show kitB "list" "int" = some false; decide +kernel)
  | .tup _, _ => kit_ty (by show kitB "tuple" "int" = some false; decide +kernel)
  | .emp, _ => kit_ty (by show kitB "dict" "int" = some false; decide +kernel)
  | .obj C _, ok => ok.no _ (by decide)
  | .ref _, ok => ok.elim
theorem kit_S : ∀ d, okC K d → PySem.W.kitOne K (tyV d) (.type "str") = some (isS d)
  | .non, _ => kit_ty (by show kitB "NoneType" "str" = some false; decide +kernel)
  | .bl _, _ => kit_ty (by show kitB "bool" "str" = some false; decide +kernel)
  | .int _, _ => kit_ty (by show kitB "int" "str" = some false; decide +kernel)
  | .str _, _ => kit_ty (by show kitB "str" "str" = some true; decide +kernel)
  | .lst _, _ => kit_ty (by show kitB "list" "str" = some false; decide +kernel)
  | .tup _, _ => kit_ty (by show kitB "tuple" "str" = some false; decide +kernel)
  | .emp, _ => kit_ty (by show kitB "dict" "str" = some false; decide +kernel)
  | .obj C _, ok => ok.no _ (by decide)
  | .ref _, ok => ok.elim
theorem kit_L : ∀ d, okC K d → PySem.W.kitOne K (tyV d) (.type "list") = some (isL d)
  | .non, _ => kit_ty (by show kitB "NoneType" "list" = some false; decide +kernel)
  | .bl _, _ => kit_ty (by show kitB "bool" "list" = some false; decide +kernel)
  | .int _, _ => kit_ty (by show kitB "int" "list" = some false; decide +kernel)
  | .str _, _ => kit_ty (by show kitB "str" "list" = some false; decide +kernel)
  | .lst _, _ => kit_ty (by show kitB "list" "list" = some true; decide +kernel)
  | .tup _, _ => kit_ty (by show kitB "tuple" "list" = some false; decide +kernel)
  | .emp, _ => kit_ty (by show kitB "dict" "list" = some false; decide +kernel)
  | .obj C _, ok => ok.no _ (by decide)
  | .ref _, ok => ok.elim
theorem kit_U : ∀ d, okC K d → PySem.W.kitOne K (tyV d) (.type "tuple") = some (isU d)
  | .non, _ => kit_ty (by show kitB "NoneType" "tuple" = some false; decide +kernel)
  | .bl _, _ => kit_ty (by show kitB "bool" "tuple" = some false; decide +kernel)
  | .int _, _ => kit_ty (by show kitB "int" "tuple" = some false; decide +kernel)
  | .str _, _ => kit_ty (by show kitB "str" "tuple" = some false; decide +kernel)
  | .lst _, _ => kit_ty (by show kitB "list" "tuple" = some false; decide +kernel)
  | .tup _, _ => kit_ty (by show kitB "tuple" "tuple" = some true; decide +kernel)
  | .emp, _ => kit_ty (by show kitB "dict" "tuple" = some false; decide +kernel)
  | .obj C _, ok => ok.no _ (by decide)
  | .ref _, ok => ok.elim
def dIsi (K : PySem.W.Frag) (g : D → Bool) (wa : WE) : WE := fun γ Q => wa γ fun x γ1 => okC K x ∧ Q (.bl (g x)) γ1
theorem de_isi (K' : PySem.W.Frag) {T : String} {y : Str} {py : Pos} {g : D → Bool} (hk : ∀ d, okC K' d → PySem.W.kitOne K' (tyV d) (.type T) = some (g d)) (hm : X.mg "isinstance" = none) (hmt : X.mg y = none) (hvt : bootBuiltins y = some (.type T)) (ha : DE X a ta wa) (hg : Gl X "isinstance" := by rfl) (hgt : Gl X y := by rfl) (hn : y ≠ "__name__" := by decide) (hdb : (y == ("__debug__" : Str)) = false := by decide)
    (he : starEach (a :: [.Name y py]) X.env = (false, eval a X.env) :: starEach [.Name y py] X.env := by rfl) (hK : X.K = K' := by rfl) : DE X (.Call (.Name "isinstance" p) [a, .Name y py] [] pos) (tCB (rIsi K') (tCons ta (tCons (tC (.ty T)) tNil))) (dIsi K' g wa) := by
  subst hK
  refine ⟨pe_callB call_isi hg hm (by decide +kernel) (pa_cons ha.pe (pa_cons (pe_bltn hgt hmt hvt rfl hn hdb) pa_nil) he) (by decide) (by decide) he, fun γ P P' k q => ha.se.mono γ _ _ (fun x γ1 q => ⟨q.1, k _ _ q.2⟩) q, fun B S H σ γ Q R q => ?_⟩
  refine ha.se.run B S H σ γ _ R (ha.se.mono γ _ _ (fun x γ1 ⟨ok, q⟩ v S1 H1 R1 e1 d1 => ?_) q)
  exact ⟨v, .ty T, _, _, g x, rfl, .ty T, den_ty d1 R1.same ok, hk x ok, q _ S1 H1 R1 e1 (.bl _)⟩
/-- isinstance(x, (T, U)) -/
theorem de_isi2 (K' : PySem.W.Frag) {T U : String} {y z : Str} {py pz pt : Pos} {kt : Nat} {g h : D → Bool} (hk : ∀ d, okC K' d → PySem.W.kitOne K' (tyV d) (.type T) = some (g d)) (hk2 : ∀ d, okC K' d → PySem.W.kitOne K' (tyV d) (.type U) = some (h d)) (hm : X.mg "isinstance" = none) (hmt : X.mg y = none) (hmu : X.mg z = none) (hvt : bootBuiltins y = some (.type T)) (hvu : bootBuiltins z = some (.type U)) (ha : DE X a ta wa) (hg : Gl X "isinstance" := by rfl) (hgt : Gl X y := by rfl) (hgu : Gl X z := by rfl)
    (hn : y ≠ "__name__" := by decide) (hdb : (y == ("__debug__" : Str)) = false := by decide) (hn2 : z ≠ "__name__" := by decide) (hdb2 : (z == ("__debug__" : Str)) = false := by decide)
    (he : starEach (a :: [.Tuple [.Name y py, .Name z pz] kt pt]) X.env = (false, eval a X.env) :: starEach [.Tuple [.Name y py, .Name z pz] kt pt] X.env := by rfl) (hK : X.K = K' := by rfl) : DE X (.Call (.Name "isinstance" p) [a, .Tuple [.Name y py, .Name z pz] kt pt] [] pos) (tCB (rIsiT K') (tCons ta (tCons (tTup (tCons (tC (.ty T)) (tCons (tC (.ty U)) tNil))) tNil))) (dIsi K' (fun d => g d || h d) wa) := by
  subst hK
  refine ⟨pe_callB call_isiT hg hm (by decide +kernel) (pa_cons ha.pe (pa_cons (pe_tup (pa_cons (pe_bltn hgt hmt hvt rfl hn hdb) (pa_cons (pe_bltn hgu hmu hvu rfl hn2 hdb2) pa_nil))) pa_nil) he) (by decide) (by decide) he, fun γ P P' k q => ha.se.mono γ _ _ (fun x γ1 q => ⟨q.1, k _ _ q.2⟩) q, fun B S H σ γ Q R q => ?_⟩
  refine ha.se.run B S H σ γ _ R (ha.se.mono γ _ _ (fun x γ1 ⟨ok, q⟩ v S1 H1 R1 e1 d1 => ?_) q)
  refine ⟨by show 2 ≤ sizeLine; decide, fun tp htp => ?_⟩
  have R2 := R1.new (o := .tup [.ty T, .ty U]) htp
  have e2 : Same S1 (upd S1 tp (.tup [.ty T, .ty U])) := Same.upd (Same.refl S1) (R1.freshS htp)
  refine ⟨v, tp, [.ty T, .ty U], _, [.type T, .type U], g x || h x, rfl, upd_same, .cons (.ty T) (.cons (.ty U) .nil), den_ty (d1.mono e2) R2.same ok, ?_, q _ _ _ R2 (e1.trans e2) (.bl _)⟩
  refine kitAny_cons (hk x ok) (fun hb => ?_) (fun hb => by rw [hb]; rfl)
  rw [hb]
  show PySem.W.kitAny X.K _ _ = some (h x)
  refine kitAny_cons (hk2 x ok) (fun hb2 => ?_) (fun hb2 => hb2)
  rw [hb2]
  exact kitAny_nil
/-- isinstance(x, C), C an own class -/
def dIsO (K : PySem.W.Frag) (C : Addr) (wa : WE) : WE := fun γ Q => wa γ fun x γ1 => okC K x ∧ (∀ C' fs, x = .obj C' fs → C' = C) ∧ Q (.bl (isO C x)) γ1
/-! ### list(x), list + list -/
def dListOf (wa : WE) : WF := fun γ Q => wa γ fun x γ1 => ∃ ds, (x = .lst ds ∨ x = .tup ds) ∧ Q ds γ1
theorem df_list (K' : PySem.W.Frag) (hm : X.mg "list" = none) (ha : DE X a ta wa) (hg : Gl X "list" := by rfl) (he : starEach (a :: []) X.env = (false, eval a X.env) :: starEach [] X.env := by rfl) (hK : X.K = K' := by rfl) : DF X (.Call (.Name "list" p) [a] [] pos) (tCB (fun xs H Q => ∃ p ys, xs = [.ref p] ∧ (SqL K' H p ys ∨ SqT K' H p ys) ∧ ∀ l, H l = none → Q (.ref l) (upd H l (.lst ys))) (tCons ta tNil)) (dListOf wa) := by
  subst hK
  refine ⟨pe_callTy call_list_of hg hm (by decide +kernel) (pa_cons ha.pe pa_nil he) (by decide) (by decide) he, fun γ P P' k q => ha.se.mono γ _ _ (fun x γ1 ⟨ds, e, q⟩ => ⟨ds, e, k _ _ q⟩) q, fun B S H σ γ Q R q => ?_⟩
  refine ha.se.run B S H σ γ _ R (ha.se.mono γ _ _ (fun x γ1 ⟨ds, e, q⟩ v S1 H1 R1 e1 d1 => ?_) q)
  rcases e with e | e
  · subst e
    obtain ⟨a, xs, rfl, g2, g3⟩ := d1.lst_inv
    exact ⟨a, xs, rfl, .inl (SqL.of (R1.same _ _ g2)), fun l hl => q l xs S1 _ (R1.newF hl) e1 g3⟩
  · subst e
    obtain ⟨a, xs, rfl, g2, g3⟩ := d1.tup_inv
    exact ⟨a, xs, rfl, .inr (SqT.of (R1.same _ _ g2)), fun l hl => q l xs S1 _ (R1.newF hl) e1 g3⟩
def dCat (wa wb : WE) : WF := fun γ Q => wa γ fun x γ1 => wb γ1 fun y γ2 => ∃ ds es, x = .lst ds ∧ y = .lst es ∧ ds.length + es.length ≤ sizeLine ∧ Q (ds ++ es) γ2
theorem df_cat (ha : DE X a ta wa) (hb : DE X b tb wb) : DF X (.BinOp a .Add b pos) (tOp rCat ta tb) (dCat wa wb) := by
  refine ⟨pe_op op_cat ha.pe hb.pe, fun γ P P' k q => ha.se.mono γ _ _ (fun x γ1 q => hb.se.mono γ1 _ _ (fun y γ2 ⟨ds, es, e1, e2, hz, q⟩ => ⟨ds, es, e1, e2, hz, k _ _ q⟩) q) q, fun B S H σ γ Q R q => ?_⟩
  refine ha.se.run B S H σ γ _ R (ha.se.mono γ _ _ (fun x γ1 q1 v S1 H1 R1 e1 d1 => ?_) q)
  refine hb.se.run B S1 H1 σ γ1 _ R1 (hb.se.mono γ1 _ _ (fun y γ2 ⟨ds, es, f1, f2, hz, q2⟩ u S2 H2 R2 e2 d2 => ?_) q1)
  clear q1
  subst f1 f2
  obtain ⟨l, xs, rfl, g2, g3⟩ := d1.lst_inv
  obtain ⟨m, ys, rfl, h2, h3⟩ := d2.lst_inv
  exact ⟨l, m, xs, ys, rfl, rfl, R2.same _ _ (e2 _ _ g2), R2.same _ _ h2, by rw [g3.1, h3.1]; exact hz, fun p hp => q2 p _ S2 _ (R2.newF hp) (e1.trans e2) ((g3.mono e2).append h3)⟩
end
/-- a def of the text: where it stands -/
structure Gf (K : PySem.W.Frag) (mg : Str → Option Value) (x : Str) (st : Stmt) (ps : List Str) : Type where
  f : Addr
  fd : FuncData
  F : Fun K x x st f fd
  g : mg x = some (.ref f)
  b : Binds K fd ps []
end DL
set_option Elab.async false
set_option linter.all false
set_option autoImplicit false
set_option maxRecDepth 100000
set_option maxHeartbeats 4000000
/-! DL7: steps for what is wanted over data. -/
namespace DL
/-- one step back, found by the goal's form -/
class Go (P : Prop) (Q : outParam Prop) : Prop where
  go : Q → P
open PySem PySem.Spec PyProof.Rows L2
def beqB : Bool → Bool → Bool
  | true, c => c
  | false, c => !c
theorem truD_n  : truD .non = (false) := rfl
theorem truD_b (b : Bool) : truD (.bl b) = (b) := rfl
theorem truD_i (i : Int) : truD (.int i) = (i != 0) := rfl
theorem truD_s (s : Str) : truD (.str s) = ((s.length : Int) != 0) := rfl
theorem truD_l (ds : List D) : truD (.lst ds) = (!ds.isEmpty) := rfl
theorem truD_t (ds : List D) : truD (.tup ds) = (!ds.isEmpty) := rfl
theorem isB_o (C : Addr) (fs : List (Str × D)) : isB (.obj C fs) = false := rfl
theorem isB_e : isB .emp = false := rfl
theorem isI_o (C : Addr) (fs : List (Str × D)) : isI (.obj C fs) = false := rfl
theorem isI_e : isI .emp = false := rfl
theorem isS_o (C : Addr) (fs : List (Str × D)) : isS (.obj C fs) = false := rfl
theorem isS_e : isS .emp = false := rfl
theorem isL_o (C : Addr) (fs : List (Str × D)) : isL (.obj C fs) = false := rfl
theorem isL_e : isL .emp = false := rfl
theorem isU_o (C : Addr) (fs : List (Str × D)) : isU (.obj C fs) = false := rfl
theorem isU_e : isU .emp = false := rfl
theorem isB_n  : isB .non = false := rfl
theorem isB_b (b : Bool) : isB (.bl b) = true := rfl
theorem isB_i (i : Int) : isB (.int i) = false := rfl
theorem isB_s (s : Str) : isB (.str s) = false := rfl
theorem isB_l (ds : List D) : isB (.lst ds) = false := rfl
theorem isB_t (ds : List D) : isB (.tup ds) = false := rfl
theorem isI_n  : isI .non = false := rfl
theorem isI_b (b : Bool) : isI (.bl b) = true := rfl
theorem isI_i (i : Int) : isI (.int i) = true := rfl
theorem isI_s (s : Str) : isI (.str s) = false := rfl
theorem isI_l (ds : List D) : isI (.lst ds) = false := rfl
theorem isI_t (ds : List D) : isI (.tup ds) = false := rfl
theorem isS_n  : isS .non = false := rfl
theorem isS_b (b : Bool) : isS (.bl b) = false := rfl
theorem isS_i (i : Int) : isS (.int i) = false := rfl
theorem isS_s (s : Str) : isS (.str s) = true := rfl
theorem isS_l (ds : List D) : isS (.lst ds) = false := rfl
theorem isS_t (ds : List D) : isS (.tup ds) = false := rfl
theorem isL_n  : isL .non = false := rfl
theorem isL_b (b : Bool) : isL (.bl b) = false := rfl
theorem isL_i (i : Int) : isL (.int i) = false := rfl
theorem isL_s (s : Str) : isL (.str s) = false := rfl
theorem isL_l (ds : List D) : isL (.lst ds) = true := rfl
theorem isL_t (ds : List D) : isL (.tup ds) = false := rfl
theorem isU_n  : isU .non = false := rfl
theorem isU_b (b : Bool) : isU (.bl b) = false := rfl
theorem isU_i (i : Int) : isU (.int i) = false := rfl
theorem isU_s (s : Str) : isU (.str s) = false := rfl
theorem isU_l (ds : List D) : isU (.lst ds) = false := rfl
theorem isU_t (ds : List D) : isU (.tup ds) = true := rfl
theorem beqB_t (c : Bool) : beqB true c = c := rfl
theorem beqB_f (c : Bool) : beqB false c = !c := rfl
theorem val_d (x : D) : (Rv.d x).val = x := rfl
theorem val_f (xs : List D) : (Rv.f xs).val = .lst xs := rfl
theorem not_t : (!true) = false := rfl
theorem not_f : (!false) = true := rfl
theorem or_t (b : Bool) : (true || b) = true := rfl
theorem or_f (b : Bool) : (false || b) = b := rfl
theorem beqB_self (b : Bool) : beqB b b = true := by cases b <;> rfl
section
variable {γ γ1 : List Sl} {Q : D → List Sl → Prop} {QF : List D → List Sl → Prop} {QT : Bool → List Sl → Prop} {QA : List D → List Sl → Prop} {QO : Option Int → List Sl → Prop} {wa wb wc we : WE} {wf : WF} {w w' : WS} {wt : WT} {wA : WA} {Dd : EndsD} {i j : Nat} {d : D} {ds es : List D} {m n : Int} {R : D → Prop} {b : Bool}
theorem i_var (h : γ[i]? = some (.val d)) (q : Q d γ) : dVar i γ Q := .inl ⟨d, h, q⟩
theorem i_c (q : Q d γ) : dC d γ Q := q
instance : Go (dC d γ Q) (Q d γ) := ⟨fun z => i_c z⟩
theorem i_v (q : wf γ fun ds γ' => Q (.lst ds) γ') : dV wf γ Q := q
instance : Go (dV wf γ Q) (wf γ fun ds γ' => Q (.lst ds) γ') := ⟨fun z => i_v z⟩
theorem i_op {f : D → D → (D → Prop) → Prop} (q : wa γ fun x γ1 => wb γ1 fun y γ2 => f x y fun d => Q d γ2) : dOp f wa wb γ Q := q
instance {f : D → D → (D → Prop) → Prop} : Go (dOp f wa wb γ Q) (wa γ fun x γ1 => wb γ1 fun y γ2 => f x y fun d => Q d γ2) := ⟨fun z => i_op z⟩
theorem i_I {C : Int → Int → Prop} {g : Int → Int → D} (c : C m n) (q : R (g m n)) : dI C g (.int m) (.int n) R := ⟨m, n, rfl, rfl, c, q⟩
theorem i_I0 {g : Int → Int → D} (q : R (g m n)) : dI0 g (.int m) (.int n) R := ⟨m, n, rfl, rfl, q⟩
theorem i_add (q : R (.int (m + n))) : dI0 (fun i j => .int (i + j)) (.int m) (.int n) R := i_I0 q
instance : Go (dI0 (fun i j => .int (i + j)) (.int m) (.int n) R) (R (.int (m + n))) := ⟨fun z => i_add z⟩
theorem i_sub (q : R (.int (m - n))) : dI0 (fun i j => .int (i - j)) (.int m) (.int n) R := i_I0 q
instance : Go (dI0 (fun i j => .int (i - j)) (.int m) (.int n) R) (R (.int (m - n))) := ⟨fun z => i_sub z⟩
theorem i_lt (q : R (.bl (decide (m < n)))) : dI0 (fun i j => .bl (decide (i < j))) (.int m) (.int n) R := i_I0 q
instance : Go (dI0 (fun i j => .bl (decide (i < j))) (.int m) (.int n) R) (R (.bl (decide (m < n)))) := ⟨fun z => i_lt z⟩
theorem i_le (q : R (.bl (decide (m ≤ n)))) : dI0 (fun i j => .bl (decide (i ≤ j))) (.int m) (.int n) R := i_I0 q
instance : Go (dI0 (fun i j => .bl (decide (i ≤ j))) (.int m) (.int n) R) (R (.bl (decide (m ≤ n)))) := ⟨fun z => i_le z⟩
theorem i_gt (q : R (.bl (decide (n < m)))) : dI0 (fun i j => .bl (decide (j < i))) (.int m) (.int n) R := i_I0 q
instance : Go (dI0 (fun i j => .bl (decide (j < i))) (.int m) (.int n) R) (R (.bl (decide (n < m)))) := ⟨fun z => i_gt z⟩
theorem i_ge (q : R (.bl (decide (n ≤ m)))) : dI0 (fun i j => .bl (decide (j ≤ i))) (.int m) (.int n) R := i_I0 q
instance : Go (dI0 (fun i j => .bl (decide (j ≤ i))) (.int m) (.int n) R) (R (.bl (decide (n ≤ m)))) := ⟨fun z => i_ge z⟩
theorem i_mul (c : IntMulOk m n) (q : R (.int (m * n))) : dI IntMulOk (fun i j => .int (i * j)) (.int m) (.int n) R := i_I c q
theorem i_mod (c : 0 < n) (q : R (.int (m % n))) : dI (fun _ j => 0 < j) (fun i j => .int (i % j)) (.int m) (.int n) R := i_I c q
theorem i_fdv (c : CDivW m n) (q : R (.int (m / n))) : dI CDivW (fun i j => .int (i / j)) (.int m) (.int n) R := i_I c q
theorem i_pow (c : CPow m n) (q : R (.int (m ^ n.toNat))) : dI CPow (fun i j => .int (i ^ j.toNat)) (.int m) (.int n) R := i_I c q
theorem mulL (h : -18446744073709551616 < m ∧ m < 18446744073709551616) : IntMulOk m n := CMul.ok (.inl ⟨by omega, by omega⟩)
theorem mulR (h : -18446744073709551616 < n ∧ n < 18446744073709551616) : IntMulOk m n := CMul.ok (.inr ⟨by omega, by omega⟩)
theorem divS (h : 0 < n ∧ n < 18446744073709551616) : CDivW m n := by
  refine ⟨h.1, ?_⟩
  have e : n.natAbs < 2 ^ 64 := by omega
  have := (Nat.log2_lt (n := n.natAbs) (k := 64) (by omega)).mpr e
  omega
theorem i_chain {f f' : D → D → (D → Prop) → Prop} (q : wa γ fun x γ1 => wb γ1 fun y γ2 => f x y fun z => ∃ k, z = .bl k ∧ if k = true then wc γ2 fun u γ3 => f' y u fun d => Q d γ3 else Q (.bl false) γ2) : dChain f f' wa wb wc γ Q := q
instance {f f' : D → D → (D → Prop) → Prop} : Go (dChain f f' wa wb wc γ Q) (wa γ fun x γ1 => wb γ1 fun y γ2 => f x y fun z => ∃ k, z = .bl k ∧ if k = true then wc γ2 fun u γ3 => f' y u fun d => Q d γ3 else Q (.bl false) γ2) := ⟨fun z => i_chain z⟩
theorem i_lt' (q : R (.bl (decide (m < n)))) : fLt (.int m) (.int n) R := i_I0 q
theorem i_le' (q : R (.bl (decide (m ≤ n)))) : fLe (.int m) (.int n) R := i_I0 q
theorem i_eqI (q : R (.bl (decide (m = n)))) : dSc false (.int m) (.int n) R := ⟨.int m, .int n, rfl, rfl, rfl, by
  have e : decide (V.int m = V.int n) = decide (m = n) := by
    by_cases h : m = n
    · rw [decide_eq_true h, decide_eq_true (congrArg V.int h)]
    · rw [decide_eq_false h, decide_eq_false (fun z => h (V.int.inj z))]
  rw [e]; exact q⟩
instance : Go (dSc false (.int m) (.int n) R) (R (.bl (decide (m = n)))) := ⟨fun z => i_eqI z⟩
theorem i_neI (q : R (.bl (!decide (m = n)))) : dSc true (.int m) (.int n) R := ⟨.int m, .int n, rfl, rfl, rfl, by
  have e : decide (V.int m = V.int n) = decide (m = n) := by
    by_cases h : m = n
    · rw [decide_eq_true h, decide_eq_true (congrArg V.int h)]
    · rw [decide_eq_false h, decide_eq_false (fun z => h (V.int.inj z))]
  rw [e]; exact q⟩
instance : Go (dSc true (.int m) (.int n) R) (R (.bl (!decide (m = n)))) := ⟨fun z => i_neI z⟩
theorem i_eqB {c : Bool} (q : R (.bl (beqB b c))) : dSc false (.bl b) (.bl c) R := ⟨.bl b, .bl c, rfl, rfl, rfl, by
  have e : decide (V.bl b = V.bl c) = beqB b c := by cases b <;> cases c <;> rfl
  rw [e]; exact q⟩
instance {c : Bool} : Go (dSc false (.bl b) (.bl c) R) (R (.bl (beqB b c))) := ⟨fun z => i_eqB z⟩
theorem i_neB {c : Bool} (q : R (.bl (!beqB b c))) : dSc true (.bl b) (.bl c) R := ⟨.bl b, .bl c, rfl, rfl, rfl, by
  have e : decide (V.bl b = V.bl c) = beqB b c := by cases b <;> cases c <;> rfl
  rw [e]; exact q⟩
instance {c : Bool} : Go (dSc true (.bl b) (.bl c) R) (R (.bl (!beqB b c))) := ⟨fun z => i_neB z⟩
theorem i_eqS {s t : Str} (q : R (.bl (decide (s = t)))) : dSc false (.str s) (.str t) R := ⟨.str s, .str t, rfl, rfl, rfl, by
  have e : decide (V.str s = V.str t) = decide (s = t) := by
    by_cases h : s = t
    · rw [decide_eq_true h, decide_eq_true (congrArg V.str h)]
    · rw [decide_eq_false h, decide_eq_false (fun z => h (V.str.inj z))]
  rw [e]; exact q⟩
instance {s t : Str} : Go (dSc false (.str s) (.str t) R) (R (.bl (decide (s = t)))) := ⟨fun z => i_eqS z⟩
theorem i_isN {x : D} (q : R (.bl (match x with | .non => true | _ => false))) : dIsN false x .non R := ⟨rfl, q⟩
instance {x : D} : Go (dIsN false x .non R) (R (.bl (match x with | .non => true | _ => false))) := ⟨fun z => i_isN z⟩
theorem i_notN {x : D} (q : R (.bl (match x with | .non => false | _ => true))) : dIsN true x .non R := ⟨rfl, q⟩
instance {x : D} : Go (dIsN true x .non R) (R (.bl (match x with | .non => false | _ => true))) := ⟨fun z => i_notN z⟩
theorem i_neg (q : wa γ fun x γ1 => ∃ i, x = .int i ∧ Q (.int (-i)) γ1) : dNeg wa γ Q := q
instance : Go (dNeg wa γ Q) (wa γ fun x γ1 => ∃ i, x = .int i ∧ Q (.int (-i)) γ1) := ⟨fun z => i_neg z⟩
theorem i_tr (q : wa γ fun x γ1 => okT x ∧ QT (truD x) γ1) : dTr wa γ QT := q
instance : Go (dTr wa γ QT) (wa γ fun x γ1 => okT x ∧ QT (truD x) γ1) := ⟨fun z => i_tr z⟩
theorem i_B (q : wa γ fun x γ1 => ∃ b, x = .bl b ∧ QT b γ1) : dB wa γ QT := q
instance : Go (dB wa γ QT) (wa γ fun x γ1 => ∃ b, x = .bl b ∧ QT b γ1) := ⟨fun z => i_B z⟩
theorem i_bl {P : Bool → Prop} (q : P b) : ∃ c, D.bl b = .bl c ∧ P c := ⟨b, rfl, q⟩
instance {P : Bool → Prop} : Go (∃ c, D.bl b = .bl c ∧ P c) (P b) := ⟨fun z => i_bl z⟩
theorem i_int {P : Int → Prop} (q : P n) : ∃ c, D.int n = .int c ∧ P c := ⟨n, rfl, q⟩
instance {P : Int → Prop} : Go (∃ c, D.int n = .int c ∧ P c) (P n) := ⟨fun z => i_int z⟩
theorem i_lst {P : List D → Prop} (q : P ds) : ∃ c, D.lst ds = .lst c ∧ P c := ⟨ds, rfl, q⟩
instance {P : List D → Prop} : Go (∃ c, D.lst ds = .lst c ∧ P c) (P ds) := ⟨fun z => i_lst z⟩
theorem i_tup {P : List D → Prop} (q : P ds) : ∃ c, D.tup ds = .tup c ∧ P c := ⟨ds, rfl, q⟩
instance {P : List D → Prop} : Go (∃ c, D.tup ds = .tup c ∧ P c) (P ds) := ⟨fun z => i_tup z⟩
theorem i_okb {P : Prop} (q : P) : okT (.bl b) ∧ P := ⟨trivial, q⟩
instance {P : Prop} : Go (okT (.bl b) ∧ P) (P) := ⟨fun z => i_okb z⟩
theorem i_oki {P : Prop} (q : P) : okT (.int n) ∧ P := ⟨trivial, q⟩
instance {P : Prop} : Go (okT (.int n) ∧ P) (P) := ⟨fun z => i_oki z⟩
theorem i_okl {P : Prop} (q : P) : okT (.lst ds) ∧ P := ⟨trivial, q⟩
instance {P : Prop} : Go (okT (.lst ds) ∧ P) (P) := ⟨fun z => i_okl z⟩
theorem i_oku {P : Prop} (q : P) : okT (.tup ds) ∧ P := ⟨trivial, q⟩
instance {P : Prop} : Go (okT (.tup ds) ∧ P) (P) := ⟨fun z => i_oku z⟩
theorem i_okn {P : Prop} (q : P) : okT .non ∧ P := ⟨trivial, q⟩
instance {P : Prop} : Go (okT .non ∧ P) (P) := ⟨fun z => i_okn z⟩
variable {wt' : WT}
theorem i_and (q : wt γ fun c γ1 => if c = true then wt' γ1 QT else QT false γ1) : dAnd wt wt' γ QT := q
instance : Go (dAnd wt wt' γ QT) (wt γ fun c γ1 => if c = true then wt' γ1 QT else QT false γ1) := ⟨fun z => i_and z⟩
theorem i_or (q : wt γ fun c γ1 => if c = true then QT true γ1 else wt' γ1 QT) : dOr wt wt' γ QT := q
instance : Go (dOr wt wt' γ QT) (wt γ fun c γ1 => if c = true then QT true γ1 else wt' γ1 QT) := ⟨fun z => i_or z⟩
theorem i_not (q : wt γ fun c γ1 => QT (!c) γ1) : dNot wt γ QT := q
instance : Go (dNot wt γ QT) (wt γ fun c γ1 => QT (!c) γ1) := ⟨fun z => i_not z⟩
theorem i_andV (q : wa γ fun x γ1 => ∃ c, x = .bl c ∧ if c = true then wb γ1 Q else Q (.bl false) γ1) : dAndV wa wb γ Q := q
instance : Go (dAndV wa wb γ Q) (wa γ fun x γ1 => ∃ c, x = .bl c ∧ if c = true then wb γ1 Q else Q (.bl false) γ1) := ⟨fun z => i_andV z⟩
theorem i_orV (q : wa γ fun x γ1 => ∃ c, x = .bl c ∧ if c = true then Q (.bl true) γ1 else wb γ1 Q) : dOrV wa wb γ Q := q
instance : Go (dOrV wa wb γ Q) (wa γ fun x γ1 => ∃ c, x = .bl c ∧ if c = true then Q (.bl true) γ1 else wb γ1 Q) := ⟨fun z => i_orV z⟩
theorem i_notV (q : wa γ fun x γ1 => ∃ c, x = .bl c ∧ Q (.bl (!c)) γ1) : dNotV wa γ Q := q
instance : Go (dNotV wa γ Q) (wa γ fun x γ1 => ∃ c, x = .bl c ∧ Q (.bl (!c)) γ1) := ⟨fun z => i_notV z⟩
theorem i_ifE (q : wt γ fun c γ1 => if c = true then wa γ1 Q else wb γ1 Q) : dIfE wt wa wb γ Q := q
instance : Go (dIfE wt wa wb γ Q) (wt γ fun c γ1 => if c = true then wa γ1 Q else wb γ1 Q) := ⟨fun z => i_ifE z⟩
theorem i_nil (q : QA [] γ) : dNil γ QA := q
instance : Go (dNil γ QA) (QA [] γ) := ⟨fun z => i_nil z⟩
theorem i_cons (q : we γ fun x γ1 => wA γ1 fun ds γ2 => QA (x :: ds) γ2) : dCons we wA γ QA := q
instance : Go (dCons we wA γ QA) (we γ fun x γ1 => wA γ1 fun ds γ2 => QA (x :: ds) γ2) := ⟨fun z => i_cons z⟩
theorem i_dtup (q : wA γ fun ds γ1 => ds.length ≤ sizeLine ∧ Q (.tup ds) γ1) : dTup wA γ Q := q
instance : Go (dTup wA γ Q) (wA γ fun ds γ1 => ds.length ≤ sizeLine ∧ Q (.tup ds) γ1) := ⟨fun z => i_dtup z⟩
theorem i_dlst (q : wA γ fun ds γ1 => ds.length ≤ sizeLine ∧ QF ds γ1) : dLst wA γ QF := q
instance : Go (dLst wA γ QF) (wA γ fun ds γ1 => ds.length ≤ sizeLine ∧ QF ds γ1) := ⟨fun z => i_dlst z⟩
theorem small (h : ds.length ≤ 100000) : ds.length ≤ sizeLine := Nat.le_trans h (by decide)
theorem smallN {k : Nat} (h : k ≤ 100000) : k ≤ sizeLine := Nat.le_trans h (by decide)
theorem i_sz {P : Prop} (h : ds.length ≤ 100000) (q : P) : ds.length ≤ sizeLine ∧ P := ⟨small h, q⟩
theorem i_ixL (h : atI ds n = some d) (q : R d) : itemD (.lst ds) (.int n) R := ⟨n, d, rfl, .inl ⟨ds, rfl, h⟩, q⟩
theorem i_ixT (h : atI ds n = some d) (q : R d) : itemD (.tup ds) (.int n) R := ⟨n, d, rfl, .inr ⟨ds, rfl, h⟩, q⟩
theorem i_ixO {mm : Bool} (g : γ[i]? = some (.own mm ds)) (q : wb γ fun y γ1 => ∃ k m ds d, y = .int k ∧ γ1[i]? = some (.own m ds) ∧ atI ds k = some d ∧ Q d γ1) : dIxO i wb γ Q := ⟨⟨_, _, g⟩, q⟩
theorem i_ixO2 {mm : Bool} {P : D → Prop} (g : γ[i]? = some (.own mm ds)) (h : atI ds n = some d) (q : P d) : ∃ k m es e, D.int n = .int k ∧ γ[i]? = some (.own m es) ∧ atI es k = some e ∧ P e := ⟨n, mm, ds, d, rfl, g, h, q⟩
theorem i_noPart (q : QO none γ) : dNoPart γ QO := q
instance : Go (dNoPart γ QO) (QO none γ) := ⟨fun z => i_noPart z⟩
theorem i_part (q : we γ fun x γ1 => ∃ i, x = .int i ∧ QO (some i) γ1) : dPart we γ QO := q
instance : Go (dPart we γ QO) (we γ fun x γ1 => ∃ i, x = .int i ∧ QO (some i) γ1) := ⟨fun z => i_part z⟩
variable {wl wh : WO}
theorem i_sl (q : wa γ fun x γ1 => wl γ1 fun l γ2 => wh γ2 fun h γ3 => ∃ ds, x = .lst ds ∧ QF (cutL ds l h) γ3) : dSl wa wl wh γ QF := q
instance : Go (dSl wa wl wh γ QF) (wa γ fun x γ1 => wl γ1 fun l γ2 => wh γ2 fun h γ3 => ∃ ds, x = .lst ds ∧ QF (cutL ds l h) γ3) := ⟨fun z => i_sl z⟩
theorem i_call {f : List D → (D → Prop) → Prop} (q : wA γ fun ds γ1 => f ds fun d => Q d γ1) : dCall f wA γ Q := q
instance {f : List D → (D → Prop) → Prop} : Go (dCall f wA γ Q) (wA γ fun ds γ1 => f ds fun d => Q d γ1) := ⟨fun z => i_call z⟩
theorem i_lenL (q : R (.int ds.length)) : lenD [.lst ds] R := ⟨ds, .inl rfl, q⟩
instance : Go (lenD [.lst ds] R) (R (.int ds.length)) := ⟨fun z => i_lenL z⟩
theorem i_lenT (q : R (.int ds.length)) : lenD [.tup ds] R := ⟨ds, .inr rfl, q⟩
instance : Go (lenD [.tup ds] R) (R (.int ds.length)) := ⟨fun z => i_lenT z⟩
theorem i_intI (q : R (.int n)) : intD [.int n] R := .inl ⟨n, rfl, q⟩
instance : Go (intD [.int n] R) (R (.int n)) := ⟨fun z => i_intI z⟩
theorem i_intB (q : R (.int (if b then 1 else 0))) : intD [.bl b] R := .inr ⟨b, rfl, q⟩
instance : Go (intD [.bl b] R) (R (.int (if b then 1 else 0))) := ⟨fun z => i_intB z⟩
theorem i_isi {K : PySem.W.Frag} {g : D → Bool} (q : wa γ fun x γ1 => okC K x ∧ Q (.bl (g x)) γ1) : dIsi K g wa γ Q := q
instance {K : PySem.W.Frag} {g : D → Bool} : Go (dIsi K g wa γ Q) (wa γ fun x γ1 => okC K x ∧ Q (.bl (g x)) γ1) := ⟨fun z => i_isi z⟩
theorem i_isO {K : PySem.W.Frag} {C : Addr} (q : wa γ fun x γ1 => okC K x ∧ (∀ C' fs, x = .obj C' fs → C' = C) ∧ Q (.bl (isO C x)) γ1) : dIsO K C wa γ Q := q
instance {K : PySem.W.Frag} {C : Addr} : Go (dIsO K C wa γ Q) (wa γ fun x γ1 => okC K x ∧ (∀ C' fs, x = .obj C' fs → C' = C) ∧ Q (.bl (isO C x)) γ1) := ⟨fun z => i_isO z⟩
theorem i_ocb {K : PySem.W.Frag} {P : Prop} (q : P) : okC K (.bl b) ∧ P := ⟨trivial, q⟩
instance {K : PySem.W.Frag} {P : Prop} : Go (okC K (.bl b) ∧ P) (P) := ⟨fun z => i_ocb z⟩
theorem i_oci {K : PySem.W.Frag} {P : Prop} (q : P) : okC K (.int n) ∧ P := ⟨trivial, q⟩
instance {K : PySem.W.Frag} {P : Prop} : Go (okC K (.int n) ∧ P) (P) := ⟨fun z => i_oci z⟩
theorem i_ocs {K : PySem.W.Frag} {P : Prop} {s : Str} (q : P) : okC K (.str s) ∧ P := ⟨trivial, q⟩
instance {K : PySem.W.Frag} {P : Prop} {s : Str} : Go (okC K (.str s) ∧ P) (P) := ⟨fun z => i_ocs z⟩
theorem i_ocl {K : PySem.W.Frag} {P : Prop} (q : P) : okC K (.lst ds) ∧ P := ⟨trivial, q⟩
instance {K : PySem.W.Frag} {P : Prop} : Go (okC K (.lst ds) ∧ P) (P) := ⟨fun z => i_ocl z⟩
theorem i_ocu {K : PySem.W.Frag} {P : Prop} (q : P) : okC K (.tup ds) ∧ P := ⟨trivial, q⟩
instance {K : PySem.W.Frag} {P : Prop} : Go (okC K (.tup ds) ∧ P) (P) := ⟨fun z => i_ocu z⟩
theorem i_ocn {K : PySem.W.Frag} {P : Prop} (q : P) : okC K .non ∧ P := ⟨trivial, q⟩
instance {K : PySem.W.Frag} {P : Prop} : Go (okC K .non ∧ P) (P) := ⟨fun z => i_ocn z⟩
theorem i_oce {K : PySem.W.Frag} {P : Prop} (q : P) : okC K .emp ∧ P := ⟨trivial, q⟩
instance {K : PySem.W.Frag} {P : Prop} : Go (okC K .emp ∧ P) (P) := ⟨fun z => i_oce z⟩
theorem i_listOf (q : wa γ fun x γ1 => ∃ ds, (x = .lst ds ∨ x = .tup ds) ∧ QF ds γ1) : dListOf wa γ QF := q
instance : Go (dListOf wa γ QF) (wa γ fun x γ1 => ∃ ds, (x = .lst ds ∨ x = .tup ds) ∧ QF ds γ1) := ⟨fun z => i_listOf z⟩
theorem i_listL {P : List D → Prop} (q : P ds) : ∃ es, (D.lst ds = .lst es ∨ D.lst ds = .tup es) ∧ P es := ⟨ds, .inl rfl, q⟩
instance {P : List D → Prop} : Go (∃ es, (D.lst ds = .lst es ∨ D.lst ds = .tup es) ∧ P es) (P ds) := ⟨fun z => i_listL z⟩
theorem i_listT {P : List D → Prop} (q : P ds) : ∃ es, (D.tup ds = .lst es ∨ D.tup ds = .tup es) ∧ P es := ⟨ds, .inr rfl, q⟩
instance {P : List D → Prop} : Go (∃ es, (D.tup ds = .lst es ∨ D.tup ds = .tup es) ∧ P es) (P ds) := ⟨fun z => i_listT z⟩
theorem i_cat (q : wa γ fun x γ1 => wb γ1 fun y γ2 => ∃ ds es, x = .lst ds ∧ y = .lst es ∧ ds.length + es.length ≤ sizeLine ∧ QF (ds ++ es) γ2) : dCat wa wb γ QF := q
instance : Go (dCat wa wb γ QF) (wa γ fun x γ1 => wb γ1 fun y γ2 => ∃ ds es, x = .lst ds ∧ y = .lst es ∧ ds.length + es.length ≤ sizeLine ∧ QF (ds ++ es) γ2) := ⟨fun z => i_cat z⟩
theorem i_cat2 {F : List D → List D → Prop} (h : ds.length + es.length ≤ 100000) (q : F ds es) : ∃ a b, D.lst ds = .lst a ∧ D.lst es = .lst b ∧ a.length + b.length ≤ sizeLine ∧ F a b := ⟨ds, es, rfl, rfl, smallN h, q⟩
/-! iterators, targets -/
theorem i_il (q : we γ fun x γ1 => ∃ ds, x = .lst ds ∧ QA ds γ1) : dIL we γ QA := q
instance : Go (dIL we γ QA) (we γ fun x γ1 => ∃ ds, x = .lst ds ∧ QA ds γ1) := ⟨fun z => i_il z⟩
theorem i_it (q : we γ fun x γ1 => ∃ ds, x = .tup ds ∧ QA ds γ1) : dIT we γ QA := q
instance : Go (dIT we γ QA) (we γ fun x γ1 => ∃ ds, x = .tup ds ∧ QA ds γ1) := ⟨fun z => i_it z⟩
theorem i_ir1 (q : wA γ fun ds γ1 => ∃ n, ds = [.int n] ∧ (-(2 ^ 62) ≤ n ∧ n < 2 ^ 62) ∧ QA (rngD 0 n.toNat) γ1) : dIR1 wA γ QA := q
instance : Go (dIR1 wA γ QA) (wA γ fun ds γ1 => ∃ n, ds = [.int n] ∧ (-(2 ^ 62) ≤ n ∧ n < 2 ^ 62) ∧ QA (rngD 0 n.toNat) γ1) := ⟨fun z => i_ir1 z⟩
theorem i_ir1' {F : Int → Prop} (h : -4611686018427387904 ≤ n ∧ n < 4611686018427387904) (q : F n) : ∃ k, [D.int n] = [.int k] ∧ (-(2 ^ 62) ≤ k ∧ k < 2 ^ 62) ∧ F k := ⟨n, rfl, ⟨by omega, by omega⟩, q⟩
theorem i_ir2 (q : wA γ fun ds γ1 => ∃ i j, ds = [.int i, .int j] ∧ (-(2 ^ 62) ≤ i ∧ i < 2 ^ 62 ∧ -(2 ^ 62) ≤ j ∧ j < 2 ^ 62) ∧ QA (rngD i (j - i).toNat) γ1) : dIR2 wA γ QA := q
instance : Go (dIR2 wA γ QA) (wA γ fun ds γ1 => ∃ i j, ds = [.int i, .int j] ∧ (-(2 ^ 62) ≤ i ∧ i < 2 ^ 62 ∧ -(2 ^ 62) ≤ j ∧ j < 2 ^ 62) ∧ QA (rngD i (j - i).toNat) γ1) := ⟨fun z => i_ir2 z⟩
theorem i_ien (q : wA γ fun ds γ1 => ∃ es, ds = [.lst es] ∧ QA (enumD es) γ1) : dIEn wA γ QA := q
instance : Go (dIEn wA γ QA) (wA γ fun ds γ1 => ∃ es, ds = [.lst es] ∧ QA (enumD es) γ1) := ⟨fun z => i_ien z⟩
theorem i_ien' {P : List D → Prop} (q : P ds) : ∃ es, [D.lst ds] = [.lst es] ∧ P es := ⟨ds, rfl, q⟩
theorem i_iz (q : wA γ fun ds γ1 => ∃ es fs, ds = [.lst es, .lst fs] ∧ QA (zipD es fs) γ1) : dIZ wA γ QA := q
instance : Go (dIZ wA γ QA) (wA γ fun ds γ1 => ∃ es fs, ds = [.lst es, .lst fs] ∧ QA (zipD es fs) γ1) := ⟨fun z => i_iz z⟩
theorem i_iz' {P : List D → List D → Prop} (q : P ds es) : ∃ a b, [D.lst ds, D.lst es] = [.lst a, .lst b] ∧ P a b := ⟨ds, es, rfl, q⟩
variable {QG : List Sl → Prop} {wg : WG} {wgs : WGs}
theorem i_name (q : QG (γ.set i (.val d))) : dName i d γ QG := q
instance : Go (dName i d γ QG) (QG (γ.set i (.val d))) := ⟨fun z => i_name z⟩
theorem i_gnil (q : QG γ) : dgNil [] γ QG := ⟨rfl, q⟩
instance : Go (dgNil [] γ QG) (QG γ) := ⟨fun z => i_gnil z⟩
theorem i_gcons (q : wg d γ fun γ1 => wgs ds γ1 QG) : dgCons wg wgs (d :: ds) γ QG := ⟨d, ds, rfl, q⟩
instance : Go (dgCons wg wgs (d :: ds) γ QG) (wg d γ fun γ1 => wgs ds γ1 QG) := ⟨fun z => i_gcons z⟩
theorem i_yes (q : QT true γ) : dYes γ QT := q
instance : Go (dYes γ QT) (QT true γ) := ⟨fun z => i_yes z⟩
/-! statements -/
theorem i_next (q : Dd.nx γ) : dNext Dd γ := q
instance : Go (dNext Dd γ) (Dd.nx γ) := ⟨fun z => i_next z⟩
theorem i_seq (q : w { Dd with nx := w' Dd } γ) : dSeq w w' Dd γ := q
instance : Go (dSeq w w' Dd γ) (w { Dd with nx := w' Dd } γ) := ⟨fun z => i_seq z⟩
theorem i_brk (q : Dd.bk γ) : dBrk Dd γ := q
instance : Go (dBrk Dd γ) (Dd.bk γ) := ⟨fun z => i_brk z⟩
theorem i_cont (q : Dd.ct γ) : dCont Dd γ := q
instance : Go (dCont Dd γ) (Dd.ct γ) := ⟨fun z => i_cont z⟩
theorem i_drop (q : we γ fun _ γ1 => Dd.nx γ1) : dDrop we Dd γ := q
instance : Go (dDrop we Dd γ) (we γ fun _ γ1 => Dd.nx γ1) := ⟨fun z => i_drop z⟩
theorem i_ret (q : we γ fun d γ1 => Dd.rt (.d d) γ1) : dRet we Dd γ := q
instance : Go (dRet we Dd γ) (we γ fun d γ1 => Dd.rt (.d d) γ1) := ⟨fun z => i_ret z⟩
theorem i_retF (q : wf γ fun ds γ1 => Dd.rt (.f ds) γ1) : dRetF wf Dd γ := q
instance : Go (dRetF wf Dd γ) (wf γ fun ds γ1 => Dd.rt (.f ds) γ1) := ⟨fun z => i_retF z⟩
theorem i_retN (q : Dd.rt (.d .non) γ) : dRetN Dd γ := q
instance : Go (dRetN Dd γ) (Dd.rt (.d .non) γ) := ⟨fun z => i_retN z⟩
theorem i_set (q : we γ fun d γ1 => Dd.nx (γ1.set i (.val d))) : dSet i we Dd γ := q
instance : Go (dSet i we Dd γ) (we γ fun d γ1 => Dd.nx (γ1.set i (.val d))) := ⟨fun z => i_set z⟩
theorem i_setO (q : wf γ fun ds γ1 => Dd.nx (γ1.set i (.own false ds))) : dSetO i wf Dd γ := q
instance : Go (dSetO i wf Dd γ) (wf γ fun ds γ1 => Dd.nx (γ1.set i (.own false ds))) := ⟨fun z => i_setO z⟩
theorem i_asg (q : we γ fun d γ1 => wg d γ1 Dd.nx) : dAsg we wg Dd γ := q
instance : Go (dAsg we wg Dd γ) (we γ fun d γ1 => wg d γ1 Dd.nx) := ⟨fun z => i_asg z⟩
theorem i_sti {wk : WE} (q : we γ fun d γ1 => (∃ m ds, γ1[i]? = some (.own m ds)) ∧ wk γ1 fun k γ2 => ∃ n m ds j, k = .int n ∧ γ2[i]? = some (.own m ds) ∧ ixN ds.length n = some j ∧ (m = true → flat d) ∧ Dd.nx (γ2.set i (.own m (ds.set j d)))) : dStI i we wk Dd γ := q
instance {wk : WE} : Go (dStI i we wk Dd γ) (we γ fun d γ1 => (∃ m ds, γ1[i]? = some (.own m ds)) ∧ wk γ1 fun k γ2 => ∃ n m ds j, k = .int n ∧ γ2[i]? = some (.own m ds) ∧ ixN ds.length n = some j ∧ (m = true → flat d) ∧ Dd.nx (γ2.set i (.own m (ds.set j d)))) := ⟨fun z => i_sti z⟩
theorem i_own {mm : Bool} {P : Prop} (g : γ[i]? = some (.own mm ds)) (q : P) : (∃ m es, γ[i]? = some (.own m es)) ∧ P := ⟨⟨_, _, g⟩, q⟩
theorem i_sti2 {mm : Bool} {F : Int → Bool → List D → Nat → Prop} (g : γ[i]? = some (.own mm ds)) (h : ixN ds.length n = some j) (q : F n mm ds j) : ∃ k m es jj, D.int n = .int k ∧ γ[i]? = some (.own m es) ∧ ixN es.length k = some jj ∧ F k m es jj := ⟨n, mm, ds, j, rfl, g, h, q⟩
theorem i_fm {d : D} {P : Prop} (q : P) : (false = true → flat d) ∧ P := ⟨fun h => (by cases h), q⟩
instance {d : D} {P : Prop} : Go ((false = true → flat d) ∧ P) (P) := ⟨fun z => i_fm z⟩
theorem i_fms {ds : List D} {P : Prop} (q : P) : (false = true → flats ds) ∧ P := ⟨fun h => (by cases h), q⟩
instance {ds : List D} {P : Prop} : Go ((false = true → flats ds) ∧ P) (P) := ⟨fun z => i_fms z⟩
theorem i_fmi {m : Bool} {n : Int} {P : Prop} (q : P) : (m = true → flat (.int n)) ∧ P := ⟨fun _ => trivial, q⟩
instance {m : Bool} {n : Int} {P : Prop} : Go ((m = true → flat (.int n)) ∧ P) (P) := ⟨fun z => i_fmi z⟩
theorem i_fmb {m b : Bool} {P : Prop} (q : P) : (m = true → flat (.bl b)) ∧ P := ⟨fun _ => trivial, q⟩
instance {m b : Bool} {P : Prop} : Go ((m = true → flat (.bl b)) ∧ P) (P) := ⟨fun z => i_fmb z⟩
theorem i_fmn {m : Bool} {P : Prop} (q : P) : (m = true → flat .non) ∧ P := ⟨fun _ => trivial, q⟩
instance {m : Bool} {P : Prop} : Go ((m = true → flat .non) ∧ P) (P) := ⟨fun z => i_fmn z⟩
theorem i_app {mm : Bool} (g : γ[i]? = some (.own mm ds)) (q : we γ fun d γ1 => ∃ m ds, γ1[i]? = some (.own m ds) ∧ ds.length < sizeLine ∧ (m = true → flat d) ∧ Dd.nx (γ1.set i (.own m (ds ++ [d])))) : dApp i we Dd γ := ⟨⟨_, _, g⟩, q⟩
theorem i_ext {mm : Bool} (g : γ[i]? = some (.own mm ds)) (q : we γ fun d γ1 => ∃ es m ds, d = .lst es ∧ γ1[i]? = some (.own m ds) ∧ ds.length + es.length ≤ sizeLine ∧ (m = true → flats es) ∧ Dd.nx (γ1.set i (.own m (ds ++ es)))) : dExt i we Dd γ := ⟨⟨_, _, g⟩, q⟩
theorem i_if {wc : WT} (q : wc γ fun b γ1 => if b = true then w Dd γ1 else w' Dd γ1) : dIf wc w w' Dd γ := q
instance {wc : WT} : Go (dIf wc w w' Dd γ) (wc γ fun b γ1 => if b = true then w Dd γ1 else w' Dd γ1) := ⟨fun z => i_if z⟩
theorem i_ite {P P' : Prop} {p : Prop} [Decidable p] {inst : Decidable (decide p = true)} (h : p → P) (h' : ¬ p → P') : @ite Prop (decide p = true) inst P P' := by
  by_cases c : p
  · rw [if_pos (decide_eq_true c)]; exact h c
  · rw [if_neg (by rw [decide_eq_false c]; exact Bool.false_ne_true)]; exact h' c
theorem i_iteN {P P' : Prop} {p : Prop} [Decidable p] {inst : Decidable ((!decide p) = true)} (h : ¬ p → P) (h' : p → P') : @ite Prop ((!decide p) = true) inst P P' := by
  by_cases c : p
  · rw [if_neg (by rw [decide_eq_true c]; exact Bool.false_ne_true)]; exact h' c
  · rw [if_pos (by rw [decide_eq_false c]; rfl)]; exact h c
theorem i_iteT {P P' : Prop} {inst : Decidable (true = true)} (h : P) : @ite Prop (true = true) inst P P' := by rw [if_pos rfl]; exact h
instance {P P' : Prop} {inst : Decidable (true = true)} : Go (@ite Prop (true = true) inst P P') (P) := ⟨fun z => i_iteT z⟩
theorem i_iteF {P P' : Prop} {inst : Decidable (false = true)} (h : P') : @ite Prop (false = true) inst P P' := by rw [if_neg Bool.false_ne_true]; exact h
instance {P P' : Prop} {inst : Decidable (false = true)} : Go (@ite Prop (false = true) inst P P') (P') := ⟨fun z => i_iteF z⟩
theorem i_callS {s : SpecD} (q : wA γ fun ds γ1 => s.S ds fun r => Q r.val γ1) : dCallS s wA γ Q := q
instance {s : SpecD} : Go (dCallS s wA γ Q) (wA γ fun ds γ1 => s.S ds fun r => Q r.val γ1) := ⟨fun z => i_callS z⟩
theorem i_callF {s : SpecD} (q : wA γ fun ds γ1 => s.S ds fun r => ∃ es, r = .f es ∧ QF es γ1) : dCallF s wA γ QF := q
instance {s : SpecD} : Go (dCallF s wA γ QF) (wA γ fun ds γ1 => s.S ds fun r => ∃ es, r = .f es ∧ QF es γ1) := ⟨fun z => i_callF z⟩
theorem i_callP {mm : Bool} {s : SpecP} (g : γ[i]? = some (.own mm ds)) (q : wA γ fun ds γ1 => ∃ m pl, γ1[i]? = some (.own m pl) ∧ s.S pl ds fun r pl' => Q r.val (γ1.set i (.own m pl'))) : dCallP i s wA γ Q := ⟨⟨_, _, g⟩, q⟩
theorem i_rf {P : List D → Prop} (q : P ds) : ∃ es, Rv.f ds = .f es ∧ P es := ⟨ds, rfl, q⟩
instance {P : List D → Prop} : Go (∃ es, Rv.f ds = .f es ∧ P es) (P ds) := ⟨fun z => i_rf z⟩
theorem i_for {wi : WA} {wb : WS} (q : wi γ fun ds γ1 => ∃ I : Nat → List Sl → Prop, I 0 γ1 ∧ (∀ i d γ, ds[i]? = some d → I i γ → wg d γ fun γ2 => wb { Dd with nx := I (i + 1), ct := I (i + 1), bk := Dd.nx } γ2) ∧ ∀ γ, I ds.length γ → Dd.nx γ) : dFor wi wg wb Dd γ := q
instance {wi : WA} {wb : WS} : Go (dFor wi wg wb Dd γ) (wi γ fun ds γ1 => ∃ I : Nat → List Sl → Prop, I 0 γ1 ∧ (∀ i d γ, ds[i]? = some d → I i γ → wg d γ fun γ2 => wb { Dd with nx := I (i + 1), ct := I (i + 1), bk := Dd.nx } γ2) ∧ ∀ γ, I ds.length γ → Dd.nx γ) := ⟨fun z => i_for z⟩
/-- what a comprehension over the items asks -/
def LcG (items : List D) (γ : List Sl) (wg : WG) (wt : WT) (we : WE) (vs : List Nat) (QF : List D → List Sl → Prop) : Prop := items.length ≤ sizeLine ∧ (∀ v ∈ vs, ∀ s, γ[v]? = some s → s = .any) ∧ ∃ I : Nat → List D → List Sl → Prop, I 0 [] γ ∧
  (∀ i acc γ d, items[i]? = some d → I i acc γ → (∀ v ∈ vs, ∀ s, γ[v]? = some s → s = .any) ∧ wg d γ fun γ2 => wt γ2 fun b γ3 => if b = true then we γ3 fun y γ4 => I (i + 1) (acc ++ [y]) (wipeG γ4 vs) else I (i + 1) acc (wipeG γ3 vs)) ∧
  ∀ acc γ, I items.length acc γ → (∀ v ∈ vs, ∀ s, γ[v]? = some s → s = .any) ∧ QF acc γ
theorem i_lc {wi : WA} {vs : List Nat} (q : wi γ fun ds γ1 => LcG ds γ1 wg wt we vs QF) : dLc wi wg wt we vs γ QF := q
instance {wi : WA} {vs : List Nat} : Go (dLc wi wg wt we vs γ QF) (wi γ fun ds γ1 => LcG ds γ1 wg wt we vs QF) := ⟨fun z => i_lc z⟩
def anyAt (γ : List Sl) : List Nat → Bool
  | [] => true
  | v :: vs => (match γ[v]? with | none => true | some .any => true | _ => false) && anyAt γ vs
theorem anyAt_ok : ∀ {vs : List Nat}, anyAt γ vs = true → ∀ v ∈ vs, ∀ s, γ[v]? = some s → s = .any
  | u :: us, h, v, hv, s, e => by
    unfold anyAt at h
    rcases List.mem_cons.mp hv with z | z
    · subst z
      rw [e] at h
      cases s <;> first | rfl | (simp at h)
    · have h2 : anyAt γ us = true := by
        cases q : anyAt γ us with
        | true => rfl
        | false => rw [q, Bool.and_false] at h; cases h
      exact anyAt_ok h2 v z s e
end
end DL
set_option Elab.async false
set_option linter.all false
set_option autoImplicit false
set_option maxRecDepth 100000
set_option maxHeartbeats 4000000
/-! DL8: defs of the script. -/
namespace DL
open PySem PySem.Spec PyProof.Rows L2
structure SpecS where
  S : List Int → (Rv → Prop) → Prop
  mono : ∀ ns P P', (∀ r, P r → P' r) → S ns P → S ns P'
def spS (K : PySem.W.Frag) (s : SpecS) : Sp := fun vs H Q _ => ∃ S a ns, vs = [.ref a] ∧ Same S H ∧ SqL K S a (ns.map V.int) ∧ s.S ns fun r => ∀ v S' H', Rel0 K ⟨H, S, [], [], emptyH⟩ S' H' [] [] → RvOk ⟨H, S, [], [], emptyH⟩ S' H' v r → Q v H'
section
variable {X : Xb} {K : PySem.W.Frag} {f : Addr} {fd : FuncData} {ps : List Str} {k : Nat} {x : Str} {e : Expr} {es : List Expr} {p pos : Pos}
def dCallScr (i : Nat) (s : SpecS) : WF := fun γ Q => ∃ ns, γ[i]? = some (.scr ns) ∧ s.S ns fun r => ∃ es, r = .f es ∧ Q es γ
theorem sf_callScr {i : Nat} {s : SpecS} : SF X (tCall (spS X.K s) [] E0 (tCons (tVar i) tNil)) (dCallScr i s) := by
  refine ⟨fun γ P P' k ⟨ns, g, q⟩ => ⟨ns, g, s.mono _ _ _ (fun r ⟨es, e, q⟩ => ⟨es, e, k _ _ q⟩) q⟩, fun B S H σ γ Q R ⟨ns, g, q⟩ => ?_⟩
  obtain ⟨a, f0, f1⟩ := R.sl i _ g
  refine ⟨_, f0, ?_⟩
  show spS X.K s ((.ref a :: []) ++ []) H Q E0
  rw [List.append_nil]
  refine ⟨S, a, ns, rfl, R.same, f1, s.mono _ _ _ (fun r ⟨es, e, q⟩ v S' H' C rv => ?_) q⟩
  subst e
  obtain ⟨b, xs, rfl, k1, k2, k3, k4⟩ := rv
  have k2' : H b = none := k2
  exact q b xs S' H' (R.callN C k2' k3 k1) C.grow k4
theorem df_callScr (K' : PySem.W.Frag) (i : Nat) {s : SpecS} {y : Str} {py : Pos} (F : FnOk X.prog X.w X.K X.mg X.base CX0 k f fd ps (spS K' s)) (hr : Room k X.A) (hm : X.mg x = some (.ref f)) (hk : PySem.W.keepIn X.K (.ref f) = true) (hb : Binds X.K fd ps []) (hN : X.N[i]? = some y := by rfl) (hv : Vis X.env.scope y := by first | exact Or.inl rfl | exact Or.inr (Or.inl rfl) | exact Or.inr (Or.inr rfl)) (hd : (y == ("__debug__" : Str)) = false := by decide)
    (hcd : (y == ("__classdict__" : Str)) = false := by decide) (hg : Gl X x := by rfl)
    (hdb : (x == ("__debug__" : Str)) = false := by decide) (he : starEach (.Name y py :: []) X.env = (false, eval (.Name y py) X.env) :: starEach [] X.env := by rfl) (hpl : (backTo pos (starEach [] X.env)).any (·.1) = false := by rfl) (hK : X.K = K' := by rfl) : DF X (.Call (.Name x p) (.Name y py :: []) [] pos) (tCall (spS K' s) [] E0 (tCons (tVar i) tNil)) (dCallScr i s) := by
  subst hK
  exact ⟨pe_call F hr hg hm hk hb .nil pass0 (pa_cons (pe_var hN hv hd hcd) pa_nil he) hdb he hpl, sf_callScr⟩
theorem i_slS {i : Nat} {γ : List Sl} {ns : List Int} {wl wh : WO} {QF : List D → List Sl → Prop} (g : γ[i]? = some (.scr ns)) (q : wl γ fun l γ2 => wh γ2 fun h γ3 => ∃ ns, γ3[i]? = some (.scr ns) ∧ QF (cutL (ns.map D.int) l h) γ3) : dSlS i wl wh γ QF := ⟨⟨ns, g⟩, q⟩
theorem i_scr2 {i : Nat} {γ : List Sl} {ns : List Int} {P : List Int → Prop} (g : γ[i]? = some (.scr ns)) (q : P ns) : ∃ ms, γ[i]? = some (.scr ms) ∧ P ms := ⟨ns, g, q⟩
end
def gamS (N : List Str) (ns : List Int) : List Sl := .scr ns :: List.replicate (N.length - 1) .any
section
variable {P : Program} {w : World} {K : PySem.W.Frag} {mg : Str → Option Value} {base : Heap} {x qual : Str} {st : Stmt} {f : Addr} {fd : FuncData} {N ps : List Str} {k : Nat}
theorem fn_okS {s : SpecS} (F : Fun K x qual st f fd) (Sc : FnScope N ps (defScope st)) (len : ps.length = 1)
    (hbody : ∀ (cdv : Value) (A : Around) (outer : List Env) (s0 : Shared) (H : Hp) (E : XK), Room k (A.deeper (envOfC qual (defScope st) s0.heap.objs.size f cdv)) →
      ∃ t w', DSs (Xb.of (cxOf CX0 P w K mg base N qual (defScope st) f cdv A outer s0 H E).nox) (defBody st) t w' ∧ ∀ ns Q, s.S ns Q → w' { nx := fun _ => Q (.d .non), rt := fun r _ => Q r } (gamS N ns)) : FnOk P w K mg base CX0 (k + 1) f fd ps (spS K s) := by
  refine F.ok Sc (fun vs H Q E h => ?_) (fun cdv A outer s0 H vs Q E hr h => ?_)
  · obtain ⟨S, a, ns, rfl, _⟩ := h
    exact len.symm
  · obtain ⟨S, a, ns, rfl, e, hS, q⟩ := h
    obtain ⟨t, w', h1, h2⟩ := hbody cdv A outer s0 H E hr
    refine ⟨t, h1.ps, ?_⟩
    have R0 : Rel0 K ⟨H, S, [], [], emptyH⟩ S H (L2.start N [.ref a]) (gamS N ns) := by
      refine ⟨fun _ => emptyH, e, fun a o h _ => h, fun a ha => (by cases ha), Same.refl S, fun a o h => .inl h, rfl.trans (by simp [gamS, L2.start]), fun i s h => ?_, fun i a o e => (by cases e), fun i a o e => (by cases e), fun i j a o u _ e => (by cases e), fun i a o e => (by cases e), fun p o hp => (by cases hp), List.nodup_nil, fun a o e => (by cases e)⟩
      unfold gamS at h
      cases i with
      | zero => cases h; exact ⟨a, rfl, hS⟩
      | succ i =>
        rw [List.getElem?_cons_succ, List.getElem?_replicate] at h
        split at h
        · cases h; trivial
        · cases h
    exact h1.ss.run ⟨H, S, [], [], emptyH⟩ S S H _ (gamS N ns) { nx := fun _ => _, rt := fun r _ => _ } _ (Rel0.of R0) (Same.refl S) ⟨fun S' H' σ' γ' _ R q => q _ _ _ R.nil Den.non, fun S' H' σ' γ' v r _ R rv q => q v _ _ R.nil rv, fun S' H' σ' γ' _ R q => q.elim, fun S' H' σ' γ' _ R q => q.elim⟩ (h2 ns _ q)
end
/-- the law's promise: for at most 63 ints the answer is True -/
def specLaw : SpecS := ⟨fun ns Q => ns.length ≤ 63 ∧ Q (.d (.bl true)), fun ns P P' k q => ⟨q.1, k _ q.2⟩⟩
theorem law_sp {K : PySem.W.Frag} (H : Hp) (a : Addr) (ns : List Int) (hl : ns.length ≤ 63) (hS : SqL K H a (ns.map V.int)) : spS K specLaw [.ref a] H (fun v _ => v = .bl true) fun _ _ _ => False :=
  ⟨H, a, ns, rfl, Same.refl H, hS, hl, fun v S' H' _ rv => by cases rv; rfl⟩

/-! ### the pool of a law: the script's first cells, a place, a great number, a count, a seed -/
def PoolP (pl : List D) : Prop := ∃ (ns : List Int) (ix big cnt seed : Int), pl = [.lst (ns.map D.int), .int ix, .int big, .int cnt, .int seed] ∧ 0 ≤ ix ∧ 0 ≤ big ∧ 0 ≤ seed ∧ seed < 2147483629
def MayDiv (many : Int) : Prop := 0 < many ∧ many.natAbs.log2 < 9000
theorem MayDiv.of {n : Int} (h : 0 < n ∧ n < 18446744073709551616) : MayDiv n := ⟨h.1, (divS (m := 0) h).2⟩
def spec_L_draw : SpecP := SpecP.of (fun many : Int => [.int many]) PoolP MayDiv (fun many r => ∃ n, r = .d (.int n) ∧ 0 ≤ n ∧ n < many)
def tenE49 : Int := 10000000000000000000000000000000000000000000000000
def spec_L_number : SpecP := SpecP.of (fun _ : Unit => []) PoolP (fun _ => True) (fun _ r => ∃ n, r = .d (.int n) ∧ -tenE49 ≤ n ∧ n < tenE49)
def spec_L_pool : SpecS := ⟨fun ns Q => ns.length ≤ 63 ∧ ∀ pl, PoolP pl → Q (.f pl), fun ns P P' k q => ⟨q.1, fun pl h => k _ (q.2 pl h)⟩⟩
theorem draw_i {many : Int} {pl : List D} {P : Rv → List D → Prop} (hp : PoolP pl) (h : MayDiv many) (q : ∀ n pl', 0 ≤ n → n < many → PoolP pl' → P (.d (.int n)) pl') : spec_L_draw.S pl [.int many] P :=
  ⟨hp, many, rfl, h, fun r pl' ⟨n, e, h0, h1⟩ hp' => by subst e; exact q n pl' h0 h1 hp'⟩
theorem number_i {pl : List D} {P : Rv → List D → Prop} (hp : PoolP pl) (q : ∀ n pl', -tenE49 ≤ n → n < tenE49 → PoolP pl' → P (.d (.int n)) pl') : spec_L_number.S pl [] P :=
  ⟨hp, (), rfl, trivial, fun r pl' ⟨n, e, h0, h1⟩ hp' => by subst e; exact q n pl' h0 h1 hp'⟩
end DL
namespace DL
open PySem PySem.Spec PyProof.Rows L2
theorem atI_ex {α : Type} {xs : List α} {i : Int} (h0 : 0 ≤ i) (h : i < xs.length) : ∃ x, atI xs i = some x ∧ xs[i.toNat]? = some x := by
  have hj : i.toNat < xs.length := by omega
  have e := atI_nat (List.getElem?_eq_getElem hj)
  have ei : ((i.toNat : Nat) : Int) = i := by omega
  rw [ei] at e
  exact ⟨xs[i.toNat], e, List.getElem?_eq_getElem hj⟩
theorem atI_int {ns : List Int} {i : Int} (h0 : 0 ≤ i) (h : i < ns.length) : ∃ c, atI (ns.map D.int) i = some (.int c) ∧ ns[i.toNat]? = some c := by
  obtain ⟨x, e1, e2⟩ := atI_ex (xs := ns.map D.int) h0 (by rw [List.length_map]; exact h)
  rw [List.getElem?_map] at e2
  cases q : ns[i.toNat]? with
  | none => rw [q] at e2; cases e2
  | some c => rw [q] at e2; cases e2; exact ⟨c, e1, rfl⟩
end DL
namespace DL
open PySem PySem.Spec PyProof.Rows L2
/-- a comprehension whose tests all fail -/
theorem i_none {items : List D} {vs : List Nat} {γ : List Sl} {QF : List D → List Sl → Prop} {wg : WG} {wt : WT} {we : WE} (hz : items.length ≤ 100000) (ha : anyAt γ vs = true)
    (h : ∀ (i : Nat) d, items[i]? = some d → ∀ R : Bool → List Sl → Prop, (∀ γ4, wipeG γ4 vs = γ → R false γ4) → wg d γ fun γ2 => wt γ2 R) (q : QF [] γ) :
    LcG items γ wg wt we vs QF := by
  refine ⟨smallN hz, anyAt_ok ha, fun i acc γ' => γ' = γ ∧ acc = [], ⟨rfl, rfl⟩, ?_, ?_⟩
  · rintro i acc γ' d hd ⟨rfl, rfl⟩
    exact ⟨anyAt_ok ha, h i d hd _ fun γ4 e => ⟨e, rfl⟩⟩
  · rintro acc γ' ⟨rfl, rfl⟩
    exact ⟨anyAt_ok ha, q⟩
theorem fn_none {P : Program} {w : World} {K : PySem.W.Frag} {mg : Str → Option Value} {base : Heap} {f : Addr} {fd : FuncData} {ps : List Str} {s : SpecD} (h : ∀ ds Q, ¬ s.S ds Q) : FnOk P w K mg base CX0 0 f fd ps (spV K s) := by
  have no : ∀ vs H Q E, ¬ spV K s vs H Q E := fun vs H Q E ⟨S, ds, _, _, q⟩ => h _ _ q
  exact ⟨fun vs H Q E h => absurd h (no vs H Q E), fun A outer s H args us vs Q E _ _ _ _ h => absurd h (no vs H Q E)⟩
/-- data less deep than n -/
def Dep : Nat → D → Prop
  | 0, _ => False
  | n + 1, .lst ds => ds.length ≤ 100000 ∧ ∀ d ∈ ds, Dep n d
  | n + 1, .tup ds => ds.length ≤ 100000 ∧ ∀ d ∈ ds, Dep n d
  | _ + 1, .obj _ _ => False
  | _ + 1, .emp => False
  | _ + 1, .ref _ => False
  | _ + 1, _ => True
theorem Dep.mono {n : Nat} : ∀ {d : D}, Dep n d → Dep (n + 1) d := by
  induction n with
  | zero => intro d h; cases h
  | succ n ih =>
    intro d h
    cases d with
    | lst ds => exact ⟨h.1, fun d hd => ih (h.2 d hd)⟩
    | tup ds => exact ⟨h.1, fun d hd => ih (h.2 d hd)⟩
    | obj C fs => cases h
    | emp => cases h
    | ref p => cases h
    | _ => trivial
def spec_L_same (k : Nat) : SpecD := SpecD.of (fun d : D => [d, d]) (Dep k) (fun _ r => r = .d (.bl true))
end DL
namespace DL
open PySem PySem.Spec PyProof.Rows L2
theorem rngD_len (lo : Int) (n : Nat) : (rngD lo n).length = n := by simp [rngD]
theorem rngD_inv {lo : Int} {n i : Nat} {d : D} (h : (rngD lo n)[i]? = some d) : d = .int (lo + (i : Int)) ∧ i < n := by
  have hi : i < n := by
    have := (List.getElem?_eq_some_iff.mp h).1
    rwa [rngD_len] at this
  refine ⟨?_, hi⟩
  unfold rngD at h
  rw [List.getElem?_map, List.getElem?_range hi] at h
  exact (Option.some.inj h).symm
theorem rng0_inv {n i : Nat} {d : D} (h : (rngD 0 n)[i]? = some d) : d = .int (i : Int) ∧ i < n := by
  obtain ⟨e, hi⟩ := rngD_inv h
  rw [Int.zero_add] at e
  exact ⟨e, hi⟩
theorem atI_of {α : Type} {xs : List α} {i : Nat} {x : α} (h : xs[i]? = some x) : atI xs (i : Int) = some x := atI_nat h
end DL
set_option Elab.async false
set_option linter.all false
set_option autoImplicit false
set_option maxRecDepth 100000
set_option maxHeartbeats 4000000
/-! DL9: a list of one's own lent as a value; a walk over two new lists; comprehensions over ranges. -/
namespace DL
open PySem PySem.Spec PyProof.Rows L2
/-- the slots while the list in slot i is lent as a value: other lists of one's own are out of sight -/
def lentS : List Sl → List Sl
  | [] => []
  | .own _ _ :: γ => .any :: lentS γ
  | .ins _ _ _ :: γ => .any :: lentS γ
  | .hp _ _ :: γ => .any :: lentS γ
  | s :: γ => s :: lentS γ
def lent (i : Nat) (ds : List D) (γ : List Sl) : List Sl := (lentS γ).set i (.val (.lst ds))
def lentI (i : Nat) (C : Addr) (fs : List (Str × D)) (γ : List Sl) : List Sl := (lentS γ).set i (.val (.obj C fs))
section
variable {X : Xb} {K : PySem.W.Frag} {B : Bs} {S H : Hp} {σ : L2.St} {γ : List Sl} {i : Nat} {ds : List D}
end
section
variable {X : Xb} {K : PySem.W.Frag} {e : Expr} {te : TE} {we : WE} {tt : TT} {wt : WT}
/-- a test, the list in slot i lent -/
def dLendT (i : Nat) (wt : WT) : WT := fun γ Q => ∃ m ds, γ[i]? = some (.own m ds) ∧ wt (lent i ds γ) fun b _ => Q b γ
/-- an expression whose value has no parts, the list in slot i lent -/
def dLend (i : Nat) (we : WE) : WE := fun γ Q => ∃ m ds, γ[i]? = some (.own m ds) ∧ we (lent i ds γ) fun d _ => flat d ∧ Q d γ
end
/-! ### for x in [new list, new list] -/
def dForTwo (i : Nat) (wf wf' : WF) (wb : WS) : WS := fun Dd γ => wf γ fun ds γ1 => wf' γ1 fun es γ2 => ∃ M : List Sl → Prop,
  wb { Dd with nx := M, ct := M, bk := Dd.nx } (γ2.set i (.own false ds)) ∧ ∀ γ, M γ → wb { Dd with nx := Dd.nx, ct := Dd.nx, bk := Dd.nx } (γ.set i (.own false es))
section
variable {X : Xb} {a b : Expr} {tf tf' : TE} {wf wf' : WF} {tb : TS} {wb : WS} {body : List Stmt} {pos pl : Pos}
end
/-! ### stepping -/
section
variable {γ : List Sl} {i : Nat} {ds : List D} {we : WE} {wt : WT} {Q : D → List Sl → Prop} {QT : Bool → List Sl → Prop} {QF : List D → List Sl → Prop} {wf wf' : WF} {wb : WS} {Dd : EndsD} {wg : WG}
theorem i_forTwo (q : wf γ fun ds γ1 => wf' γ1 fun es γ2 => ∃ M : List Sl → Prop, wb { Dd with nx := M, ct := M, bk := Dd.nx } (γ2.set i (.own false ds)) ∧ ∀ γ, M γ → wb { Dd with nx := Dd.nx, ct := Dd.nx, bk := Dd.nx } (γ.set i (.own false es))) : dForTwo i wf wf' wb Dd γ := q
instance : Go (dForTwo i wf wf' wb Dd γ) (wf γ fun ds γ1 => wf' γ1 fun es γ2 => ∃ M : List Sl → Prop, wb { Dd with nx := M, ct := M, bk := Dd.nx } (γ2.set i (.own false ds)) ∧ ∀ γ, M γ → wb { Dd with nx := Dd.nx, ct := Dd.nx, bk := Dd.nx } (γ.set i (.own false es))) := ⟨fun z => i_forTwo z⟩
theorem i_flb {b : Bool} {P : Prop} (q : P) : flat (.bl b) ∧ P := ⟨trivial, q⟩
instance {b : Bool} {P : Prop} : Go (flat (.bl b) ∧ P) (P) := ⟨fun z => i_flb z⟩
theorem i_fli {n : Int} {P : Prop} (q : P) : flat (.int n) ∧ P := ⟨trivial, q⟩
instance {n : Int} {P : Prop} : Go (flat (.int n) ∧ P) (P) := ⟨fun z => i_fli z⟩
theorem i_fln {P : Prop} (q : P) : flat .non ∧ P := ⟨trivial, q⟩
instance {P : Prop} : Go (flat .non ∧ P) (P) := ⟨fun z => i_fln z⟩
end
end DL
set_option Elab.async false
set_option linter.all false
set_option autoImplicit false
set_option maxRecDepth 100000
set_option maxHeartbeats 4000000
/-! DL10: lists told by their places. -/
namespace DL
open PySem PySem.Spec PyProof.Rows L2
/-- the list of n items told by f -/
abbrev dLs (n : Nat) (f : Nat → D) : List D := (List.range n).map f
theorem dLs_len {n : Nat} {f : Nat → D} : (dLs n f).length = n := by simp
theorem dLs_get {n : Nat} {f : Nat → D} {i : Nat} (h : i < n) : (dLs n f)[i]? = some (f i) := by
  unfold dLs
  rw [List.getElem?_map, List.getElem?_range h]
  rfl
theorem dLs_inv {n : Nat} {f : Nat → D} {i : Nat} {d : D} (h : (dLs n f)[i]? = some d) : d = f i ∧ i < n := by
  have hi : i < n := by
    have := (List.getElem?_eq_some_iff.mp h).1
    rwa [dLs_len] at this
  rw [dLs_get hi] at h
  exact ⟨(Option.some.inj h).symm, hi⟩
theorem dLs_rng (n : Nat) : rngD 0 n = dLs n fun i => .int (i : Int) := by
  unfold rngD dLs
  apply List.map_congr_left
  intro i _
  rw [Int.zero_add]
theorem dLs_snoc {n : Nat} {f : Nat → D} : dLs n f ++ [f n] = dLs (n + 1) f := by
  unfold dLs
  rw [List.range_succ, List.map_append]
  rfl
section
variable {γ : List Sl} {we : WE} {QF : List D → List Sl → Prop} {wg : WG} {R : D → Prop}
/-- a comprehension that changes nothing, over items told by places -/
theorem i_mapN {n : Nat} {items : List D} {vs : List Nat} (it : Nat → D) (g : Nat → D) (he : items = dLs n it) (hz : n ≤ 100000) (ha : anyAt γ vs = true)
    (h : ∀ (i : Nat), i < n → ∀ R : D → List Sl → Prop, (∀ γ4, wipeG γ4 vs = γ → R (g i) γ4) → wg (it i) γ fun γ2 => we γ2 R) (q : QF (dLs n g) γ) :
    LcG items γ wg dYes we vs QF := by
  subst he
  refine ⟨by rw [dLs_len]; exact smallN (by omega), anyAt_ok ha, fun i acc γ' => γ' = γ ∧ acc = dLs i g, ⟨rfl, rfl⟩, ?_, ?_⟩
  · rintro i acc γ' d hd ⟨rfl, rfl⟩
    obtain ⟨rfl, hi⟩ := dLs_inv hd
    refine ⟨anyAt_ok ha, ?_⟩
    exact h i (by omega) (fun y γ4 => wipeG γ4 vs = γ' ∧ dLs i g ++ [y] = dLs (i + 1) g) (fun γ4 e => ⟨e, dLs_snoc⟩)
  · rintro acc γ' ⟨rfl, rfl⟩
    refine ⟨anyAt_ok ha, ?_⟩
    rw [dLs_len]
    exact q
end
end DL
namespace DL
open PySem PySem.Spec PyProof.Rows L2
theorem fun_of {K : PySem.W.Frag} {x q : Str} {st : Stmt} {f : Addr} {fd : FuncData} (F : FunD K x q (defArgs st) (defBody st) (defScope st) [] [] f fd) : Fun K x q st f fd := by
  obtain ⟨oc, od, dV, kV, doc, pm, an, cdv, ct, osl, rfl, lk, hcd, hD, _⟩ := F.ex
  rcases hD with ⟨_, rfl⟩ | ⟨e, _⟩
  · exact ⟨⟨oc, od, kV, doc, pm, an, cdv, ct, osl, rfl, lk, hcd⟩, F.kp⟩
  · exact absurd rfl e
end DL
set_option Elab.async false
set_option linter.all false
set_option autoImplicit false
set_option maxRecDepth 100000
set_option maxHeartbeats 4000000
/-! DL11: // and % by any int but 0; while; what is never reached; abs, bit_length. -/
namespace DL
open PySem PySem.Spec PyProof.Rows L2
def TopEnv (l : List Env) : Prop := ∃ env r, l = env :: r ∧ env.scope.isGenerator = false ∧ env.scope.isCoroutine = false ∧ env.builtins = builtinsNs ∧ env.globals = mainGlobals
section
variable {X : Xb} {K : PySem.W.Frag} {a b c e : Expr} {ta tb tc te : TE} {wa wb wc we : WE} {pos p : Pos}
abbrev dFdvA := dOp (dI (fun _ j => j ≠ 0) fun i j => .int (i.fdiv j))
abbrev dModN := dOp (dI (fun _ j => j ≠ 0) fun i j => .int (i.fmod j))
/-! ### never reached -/
def wNo {α : Type} : List Sl → (α → List Sl → Prop) → Prop := fun _ _ => False
def sNo : WS := fun _ _ => False
/-! ### while -/
def dWhile (wt : WT) (wb : WS) : WS := fun Dd γ => ∃ W : Nat → List Sl → Prop, (∃ m, W m γ) ∧ ∀ m γ, W m γ → wt γ fun b γ1 => if b = true then wb { Dd with nx := fun γ' => ∃ m', m' < m ∧ W m' γ', ct := fun γ' => ∃ m', m' < m ∧ W m' γ', bk := Dd.nx } γ1 else Dd.nx γ1
/-- a, b = x, y -/
def dPar (i j : Nat) (wa wb : WE) : WS := fun Dd γ => wa γ fun x γ1 => wb γ1 fun y γ2 => Dd.nx ((γ2.set i (.val x)).set j (.val y))
theorem i_par {γ : List Sl} {Dd : EndsD} {i j : Nat} (q : wa γ fun x γ1 => wb γ1 fun y γ2 => Dd.nx ((γ2.set i (.val x)).set j (.val y))) : dPar i j wa wb Dd γ := q
instance {γ : List Sl} {Dd : EndsD} {i j : Nat} : Go (dPar i j wa wb Dd γ) (wa γ fun x γ1 => wb γ1 fun y γ2 => Dd.nx ((γ2.set i (.val x)).set j (.val y))) := ⟨fun z => i_par z⟩
/-! ### abs, bit_length -/
def absD (ds : List D) (Q : D → Prop) : Prop := ∃ i, ds = [.int i] ∧ Q (.int (if i < 0 then -i else i))
def dBits (wa : WE) : WE := fun γ Q => wa γ fun x γ1 => ∃ i, x = .int i ∧ Q (.int (Builtin.Int.intBits i : Nat)) γ1
end
section
variable {γ : List Sl} {wa wb : WE} {Q : D → List Sl → Prop} {m n : Int} {R : D → Prop} {wt : WT} {wt : WT} {w : WS} {Dd : EndsD}
theorem i_abs (q : R (.int (if n < 0 then -n else n))) : absD [.int n] R := ⟨n, rfl, q⟩
instance : Go (absD [.int n] R) (R (.int (if n < 0 then -n else n))) := ⟨fun z => i_abs z⟩
theorem i_bits (q : wa γ fun x γ1 => ∃ i, x = .int i ∧ Q (.int (Builtin.Int.intBits i : Nat)) γ1) : dBits wa γ Q := q
instance : Go (dBits wa γ Q) (wa γ fun x γ1 => ∃ i, x = .int i ∧ Q (.int (Builtin.Int.intBits i : Nat)) γ1) := ⟨fun z => i_bits z⟩
theorem i_while (q : ∃ W : Nat → List Sl → Prop, (∃ m, W m γ) ∧ ∀ m γ, W m γ → wt γ fun b γ1 => if b = true then w { Dd with nx := fun γ' => ∃ m', m' < m ∧ W m' γ', ct := fun γ' => ∃ m', m' < m ∧ W m' γ', bk := Dd.nx } γ1 else Dd.nx γ1) : dWhile wt w Dd γ := q
instance : Go (dWhile wt w Dd γ) (∃ W : Nat → List Sl → Prop, (∃ m, W m γ) ∧ ∀ m γ, W m γ → wt γ fun b γ1 => if b = true then w { Dd with nx := fun γ' => ∃ m', m' < m ∧ W m' γ', ct := fun γ' => ∃ m', m' < m ∧ W m' γ', bk := Dd.nx } γ1 else Dd.nx γ1) := ⟨fun z => i_while z⟩
end
end DL
set_option Elab.async false
set_option linter.all false
set_option autoImplicit false
set_option maxRecDepth 100000
set_option maxHeartbeats 4000000
/-! DL12: instances: made, read, set, their methods and special methods. -/
namespace DL
open PySem PySem.Spec PyProof.Rows L2
section
variable {X : Xb} {pins : List (Addr × Obj)} {σ : L2.St} {H : Hp} {s : Shared} {A : Around} {CX : CXT} {n : Nat} {f C : Addr} {fd : FuncData} {ps : List Str} {sp : Sp} {E : XK} {Q : VK}
/-- x in c, c an instance of an own class -/
def rInO (C : Addr) (sp : Sp) (neg : Bool) (E : XK) : R2 := fun x y H Q => ∃ a dx fs, y = .ref a ∧ H a = some (.ins C dx fs) ∧ sp [.ref a, x] H (fun v H' => ∃ b, v = .bl b ∧ Q (.bl (if neg then !b else b)) H') E
/-- a + b, a, b two instances of an own class; what comes is not NotImplemented -/
def rBinO (C : Addr) (sp : Sp) (E : XK) : R2 := fun x y H Q => ∃ a dx fs b dy gs, x = .ref a ∧ y = .ref b ∧ H a = some (.ins C dx fs) ∧ H b = some (.ins C dy gs) ∧ sp [.ref a, .ref b] H (fun v H' => (∃ p, v = .ref p) ∧ Q v H') E
/-- a == b of two instances of an own class -/
def rCmpO (C : Addr) (sp : Sp) (E : XK) : R2 := fun x y H Q => ∃ a dx fs b dy gs, x = .ref a ∧ y = .ref b ∧ H a = some (.ins C dx fs) ∧ H b = some (.ins C dy gs) ∧ sp [.ref a, .ref b] H (fun v H' => (∃ p, v = .bl p) ∧ Q v H') E
/-- len of an instance -/
def rLenO (C : Addr) (sp : Sp) (E : XK) : List V → Hp → VK → Prop := fun xs H Q => ∃ a dx fs, xs = [.ref a] ∧ H a = some (.ins C dx fs) ∧ sp [.ref a] H (fun v H' => ∃ i : Int, v = .int i ∧ (0 ≤ i ∧ i < 2 ^ 63) ∧ Q (.int i) H') E
end
end DL
namespace DL
open PySem PySem.Spec PyProof.Rows L2
section
variable {X : Xb} {B : Bs} {S S' H H' : Hp} {σ : L2.St} {γ : List Sl} {v : V} {r : Rv}
end
/-! ### special methods over data -/
structure OpSK (X : Xb) (r : R2) (f : D → D → (D → Prop) → Prop) : Prop where
  mono : ∀ x y (P P' : D → Prop), (∀ d, P d → P' d) → f x y P → f x y P'
  run : ∀ B S H σ γ (Q : VK) v u x y, Rel X B S H σ γ → Den S v x → Den S u y → f x y (fun d => ∀ z S' H', Rel X B S' H' σ γ → Same S S' → Den S' z d → Q z H') → r v u H Q
section
variable {K : PySem.W.Frag} {X : Xb} {a b c e : Expr} {ta tb tc te : TE} {wa wb wc we : WE} {pos p : Pos}
theorem se_opK {r : R2} {f : D → D → (D → Prop) → Prop} (ho : OpSK X r f) (ha : SE X ta wa) (hb : SE X tb wb) : SE X (tOp r ta tb) (dOp f wa wb) := by
  refine ⟨fun γ P P' k q => ha.mono γ _ _ (fun x γ1 q => hb.mono γ1 _ _ (fun y γ2 q => ho.mono x y _ _ (fun d q => k _ _ q) q) q) q, fun B S H σ γ Q R q => ?_⟩
  refine ha.run B S H σ γ _ R (ha.mono γ _ _ (fun x γ1 q v S1 H1 R1 e1 d1 => ?_) q)
  refine hb.run B S1 H1 σ γ1 _ R1 (hb.mono γ1 _ _ (fun y γ2 q u S2 H2 R2 e2 d2 => ?_) q)
  exact ho.run B S2 H2 σ γ2 Q v u x y R2 (d1.mono e2) d2 (ho.mono _ _ _ _ (fun d q z S' H' R' e d' => q z S' H' R' ((e1.trans e2).trans e) d') q)
variable {C f : Addr} {s : SpecD} {k : Nat} {fd : FuncData} {ps : List Str}
def fInO (C : Addr) (s : SpecD) (neg : Bool) (x y : D) (Q : D → Prop) : Prop := ∃ fs, y = .obj C fs ∧ s.S [.obj C fs, x] fun r => ∃ b, r = .d (.bl b) ∧ Q (.bl (if neg then !b else b))
/-- a == b of two instances -/
def fCmpO (C : Addr) (s : SpecD) (x y : D) (Q : D → Prop) : Prop := ∃ fs gs, x = .obj C fs ∧ y = .obj C gs ∧ s.S [.obj C fs, .obj C gs] fun r => ∃ b, r = .d (.bl b) ∧ Q (.bl b)
/-- a + b of two instances -/
def fAddO (C : Addr) (s : SpecD) (x y : D) (Q : D → Prop) : Prop := ∃ fs gs, x = .obj C fs ∧ y = .obj C gs ∧ s.S [.obj C fs, .obj C gs] fun r => ∃ C' hs, r = .o C' hs ∧ Q (.obj C' hs)
/-- len of an instance -/
def fLenO (C : Addr) (s : SpecD) (ds : List D) (Q : D → Prop) : Prop := ∃ fs, ds = [.obj C fs] ∧ s.S [.obj C fs] fun r => ∃ i, r = .d (.int i) ∧ (0 ≤ i ∧ i < 2 ^ 63) ∧ Q (.int i)
/-! ### attributes and methods of instances that are values -/
def dFld (K : PySem.W.Frag) (f : Str) (wa : WE) : WE := fun γ Q => wa γ fun x γ1 => ∃ C fs d, x = .obj C fs ∧ (Cls K C ∧ NoAttr K C f) ∧ fs.lookup f = some d ∧ Q d γ1
def dMeth (C : Addr) (m : Str) (s : SpecD) (wa : WE) (w : WA) : WE := fun γ Q => wa γ fun x γ1 => ∃ fs, x = .obj C fs ∧ fs.lookup m = none ∧ w γ1 fun ds γ2 => s.S (.obj C fs :: ds) fun r => Q r.val γ2
def dMethF (C : Addr) (m : Str) (s : SpecD) (wa : WE) (w : WA) : WF := fun γ Q => wa γ fun x γ1 => ∃ fs, x = .obj C fs ∧ fs.lookup m = none ∧ w γ1 fun ds γ2 => s.S (.obj C fs :: ds) fun r => ∃ es, r = .f es ∧ Q es γ2
section
variable {o : Expr} {m : Str} {es : List Expr} {apos : Pos} {pl : Sem Bool} {t : TA} {w : WA}
end
end
end DL
set_option Elab.async false
set_option linter.all false
set_option autoImplicit false
set_option maxRecDepth 100000
set_option maxHeartbeats 4000000
/-! DL13: new instances, instances of one's own. -/
namespace DL
open PySem PySem.Spec PyProof.Rows L2
abbrev WN := List Sl → (Addr → List (Str × D) → List Sl → Prop) → Prop
/-- a new instance -/
structure SN (X : Xb) (t : TE) (w : WN) : Prop where
  mono : ∀ γ (P P' : Addr → List (Str × D) → List Sl → Prop), (∀ C fs γ', P C fs γ' → P' C fs γ') → w γ P → w γ P'
  run : ∀ B S H σ γ (Q : VK), Rel X B S H σ γ → w γ (fun C fs γ' => ∀ p dx vs S' H', Rel X (B.fram p (.ins C dx vs)) S' H' σ γ' → Same S S' → DenF S' vs fs → Q (.ref p) H') → t σ H Q
structure DN (X : Xb) (e : Expr) (t : TE) (w : WN) : Prop where
  pe : PE X e t
  sn : SN X t w
section
variable {X : Xb} {K : PySem.W.Frag} {a b c e : Expr} {ta tb tc te : TE} {wa wb wc we : WE} {pos p : Pos} {es : List Expr}
/-- a new instance taken as a value -/
def dVN (w : WN) : WE := fun γ Q => w γ fun C fs γ' => Q (.obj C fs) γ'
theorem se_ofN {t : TE} {w : WN} (h : SN X t w) : SE X t (dVN w) := by
  refine ⟨fun γ P P' k q => h.mono γ _ _ (fun C fs γ' x => k _ _ x) q, fun B S H σ γ Q R q => ?_⟩
  refine h.run B S H σ γ Q R (h.mono γ _ _ (fun C fs γ' k p dx vs S' H' R' e e4 => ?_) q)
  have e6 : Same S' (upd S' p (.ins C dx vs)) := Same.upd (Same.refl S') R'.unfram.2.2.1
  exact k (.ref p) (upd S' p (.ins C dx vs)) H' R'.frzF (e.trans e6) (.ofO upd_same (e4.mono e6))
theorem DN.v {t : TE} {w : WN} (h : DN X e t w) : DE X e t (dVN w) := ⟨h.pe, se_ofN h.sn⟩
end
/-! ### promises of __init__ -/
structure SpecI where
  S : List D → (List (Str × D) → Prop) → Prop
  mono : ∀ ds P P', (∀ fs, P fs → P' fs) → S ds P → S ds P'
def SpecI.of {α : Type} (args : α → List D) (pre : α → Prop) (post : α → List (Str × D)) : SpecI := ⟨fun ds Q => ∃ a, ds = args a ∧ pre a ∧ Q (post a), fun ds P P' k ⟨a, e, h, q⟩ => ⟨a, e, h, k _ q⟩⟩
def spI (K : PySem.W.Frag) (C : Addr) (s : SpecI) : Sp := fun vs H Q _ => ∃ S p dx vs' ds, vs = .ref p :: vs' ∧ Same S H ∧ S p = none ∧ H p = some (.ins C dx []) ∧ DenL S vs' ds ∧
  s.S ds fun fs => ∀ S' H' dx' us, Rel0 K ⟨H, S, [p], [], emptyH⟩ S' H' [] [] → S' p = none → H' p = some (.ins C dx' us) → DenF S' us fs → Q .non H'
section
variable {X : Xb} {K : PySem.W.Frag} {C f : Addr} {fd : FuncData} {ps : List Str} {k : Nat} {x : Str} {e : Expr} {es : List Expr} {t : TA} {w : WA} {p pos : Pos} {s : SpecI}
def dMake (C : Addr) (s : SpecI) (w : WA) : WN := fun γ Q => w γ fun ds γ1 => s.S ds fun fs => Q C fs γ1
end
def gamI (N : List Str) (m : Bool) (C : Addr) (ds : List D) : List Sl := .ins m C [] :: (ds.map .val ++ List.replicate (N.length - (ds.length + 1)) .any)
section
variable {P : Program} {w : World} {K : PySem.W.Frag} {mg : Str → Option Value} {base : Heap} {x qual : Str} {st : Stmt} {f C : Addr} {fd : FuncData} {N ps : List Str} {k : Nat}
end
/-! ### instances of one's own -/
section
variable {X : Xb} {K : PySem.W.Frag} {a b c e : Expr} {ta tb tc te : TE} {wa wb wc we : WE} {pos p : Pos}
/-- x = C(..), kept as one's own -/
def dSetN (i : Nat) (w : WN) : WS := fun Dd γ => w γ fun C fs γ1 => Dd.nx (γ1.set i (.ins false C fs))
/-- return C(..) -/
def dRetN' (w : WN) : WS := fun Dd γ => w γ fun C fs γ1 => Dd.rt (.o C fs) γ1
/-- return of an instance of one's own, at a name -/
def dRetI (i : Nat) : WS := fun Dd γ => ∃ C fs, γ[i]? = some (.ins false C fs) ∧ Dd.rt (.o C fs) (γ.set i .any)
/-- an instance of one's own as a value from here on -/
def dVarI (i : Nat) : WE := fun γ Q => ∃ C fs, γ[i]? = some (.ins false C fs) ∧ Q (.obj C fs) (γ.set i (.val (.obj C fs)))
/-- x.f, x an instance of one's own -/
def dFldI (K : PySem.W.Frag) (i : Nat) (f : Str) : WE := fun γ Q => ∃ m C fs d, γ[i]? = some (.ins m C fs) ∧ (Cls K C ∧ NoAttr K C f) ∧ fs.lookup f = some d ∧ Q d γ
/-- x.f = e, x an instance of one's own -/
def dPutI (K : PySem.W.Frag) (i : Nat) (f : Str) (we : WE) : WS := fun Dd γ => we γ fun d γ1 => ∃ m C fs, γ1[i]? = some (.ins m C fs) ∧ (Cls K C ∧ NoAttr K C f) ∧ fs.length < 1000 ∧ Dd.nx (γ1.set i (.ins m C (putD f d fs)))
/-- is, is not of bools -/
def fIsB (neg : Bool) (x y : D) (Q : D → Prop) : Prop := ∃ a b, x = .bl a ∧ y = .bl b ∧ Q (.bl (if neg then !decide (a = b) else decide (a = b)))
end
/-! ### stepping -/
section
variable {γ : List Sl} {i : Nat} {ds : List D} {d : D} {C : Addr} {fs : List (Str × D)} {f : Str} {K : PySem.W.Frag} {we wa : WE} {w : WA} {wn : WN} {Q : D → List Sl → Prop} {QF : List D → List Sl → Prop} {QN : Addr → List (Str × D) → List Sl → Prop} {Dd : EndsD} {s : SpecI} {sd : SpecD} {m : Str} {R : D → Prop} {mm : Bool}
theorem i_vn (q : wn γ fun C fs γ' => Q (.obj C fs) γ') : dVN wn γ Q := q
instance : Go (dVN wn γ Q) (wn γ fun C fs γ' => Q (.obj C fs) γ') := ⟨fun z => i_vn z⟩
theorem i_make (q : w γ fun ds γ1 => s.S ds fun fs => QN C fs γ1) : dMake C s w γ QN := q
instance : Go (dMake C s w γ QN) (w γ fun ds γ1 => s.S ds fun fs => QN C fs γ1) := ⟨fun z => i_make z⟩
theorem i_setN (q : wn γ fun C fs γ1 => Dd.nx (γ1.set i (.ins false C fs))) : dSetN i wn Dd γ := q
instance : Go (dSetN i wn Dd γ) (wn γ fun C fs γ1 => Dd.nx (γ1.set i (.ins false C fs))) := ⟨fun z => i_setN z⟩
theorem i_retNew (q : wn γ fun C fs γ1 => Dd.rt (.o C fs) γ1) : dRetN' wn Dd γ := q
instance : Go (dRetN' wn Dd γ) (wn γ fun C fs γ1 => Dd.rt (.o C fs) γ1) := ⟨fun z => i_retNew z⟩
theorem i_putI (q : we γ fun d γ1 => ∃ m C fs, γ1[i]? = some (.ins m C fs) ∧ (Cls K C ∧ NoAttr K C f) ∧ fs.length < 1000 ∧ Dd.nx (γ1.set i (.ins m C (putD f d fs)))) : dPutI K i f we Dd γ := q
instance : Go (dPutI K i f we Dd γ) (we γ fun d γ1 => ∃ m C fs, γ1[i]? = some (.ins m C fs) ∧ (Cls K C ∧ NoAttr K C f) ∧ fs.length < 1000 ∧ Dd.nx (γ1.set i (.ins m C (putD f d fs)))) := ⟨fun z => i_putI z⟩
theorem i_fld (q : wa γ fun x γ1 => ∃ C fs d, x = .obj C fs ∧ (Cls K C ∧ NoAttr K C f) ∧ fs.lookup f = some d ∧ Q d γ1) : dFld K f wa γ Q := q
instance : Go (dFld K f wa γ Q) (wa γ fun x γ1 => ∃ C fs d, x = .obj C fs ∧ (Cls K C ∧ NoAttr K C f) ∧ fs.lookup f = some d ∧ Q d γ1) := ⟨fun z => i_fld z⟩
theorem i_meth (q : wa γ fun x γ1 => ∃ fs, x = .obj C fs ∧ fs.lookup m = none ∧ w γ1 fun ds γ2 => sd.S (.obj C fs :: ds) fun r => Q r.val γ2) : dMeth C m sd wa w γ Q := q
instance : Go (dMeth C m sd wa w γ Q) (wa γ fun x γ1 => ∃ fs, x = .obj C fs ∧ fs.lookup m = none ∧ w γ1 fun ds γ2 => sd.S (.obj C fs :: ds) fun r => Q r.val γ2) := ⟨fun z => i_meth z⟩
theorem i_methF (q : wa γ fun x γ1 => ∃ fs, x = .obj C fs ∧ fs.lookup m = none ∧ w γ1 fun ds γ2 => sd.S (.obj C fs :: ds) fun r => ∃ es, r = .f es ∧ QF es γ2) : dMethF C m sd wa w γ QF := q
instance : Go (dMethF C m sd wa w γ QF) (wa γ fun x γ1 => ∃ fs, x = .obj C fs ∧ fs.lookup m = none ∧ w γ1 fun ds γ2 => sd.S (.obj C fs :: ds) fun r => ∃ es, r = .f es ∧ QF es γ2) := ⟨fun z => i_methF z⟩
theorem i_inO {neg : Bool} {x : D} (q : sd.S [.obj C fs, x] fun r => ∃ b, r = .d (.bl b) ∧ R (.bl (if neg then !b else b))) : fInO C sd neg x (.obj C fs) R := ⟨fs, rfl, q⟩
instance {neg : Bool} {x : D} : Go (fInO C sd neg x (.obj C fs) R) (sd.S [.obj C fs, x] fun r => ∃ b, r = .d (.bl b) ∧ R (.bl (if neg then !b else b))) := ⟨fun z => i_inO z⟩
theorem i_eqO {gs : List (Str × D)} (q : sd.S [.obj C fs, .obj C gs] fun r => ∃ b, r = .d (.bl b) ∧ R (.bl b)) : fCmpO C sd (.obj C fs) (.obj C gs) R := ⟨fs, gs, rfl, rfl, q⟩
instance {gs : List (Str × D)} : Go (fCmpO C sd (.obj C fs) (.obj C gs) R) (sd.S [.obj C fs, .obj C gs] fun r => ∃ b, r = .d (.bl b) ∧ R (.bl b)) := ⟨fun z => i_eqO z⟩
theorem i_addO {gs : List (Str × D)} (q : sd.S [.obj C fs, .obj C gs] fun r => ∃ C' hs, r = .o C' hs ∧ R (.obj C' hs)) : fAddO C sd (.obj C fs) (.obj C gs) R := ⟨fs, gs, rfl, rfl, q⟩
instance {gs : List (Str × D)} : Go (fAddO C sd (.obj C fs) (.obj C gs) R) (sd.S [.obj C fs, .obj C gs] fun r => ∃ C' hs, r = .o C' hs ∧ R (.obj C' hs)) := ⟨fun z => i_addO z⟩
theorem i_lenOb (q : sd.S [.obj C fs] fun r => ∃ i, r = .d (.int i) ∧ (0 ≤ i ∧ i < 2 ^ 63) ∧ R (.int i)) : fLenO C sd [.obj C fs] R := ⟨fs, rfl, q⟩
instance : Go (fLenO C sd [.obj C fs] R) (sd.S [.obj C fs] fun r => ∃ i, r = .d (.int i) ∧ (0 ≤ i ∧ i < 2 ^ 63) ∧ R (.int i)) := ⟨fun z => i_lenOb z⟩
theorem i_isBl {x y : Bool} (q : R (.bl (decide (x = y)))) : fIsB false (.bl x) (.bl y) R := ⟨x, y, rfl, rfl, q⟩
instance {x y : Bool} : Go (fIsB false (.bl x) (.bl y) R) (R (.bl (decide (x = y)))) := ⟨fun z => i_isBl z⟩
theorem i_isnotBl {x y : Bool} (q : R (.bl (!decide (x = y)))) : fIsB true (.bl x) (.bl y) R := ⟨x, y, rfl, rfl, q⟩
instance {x y : Bool} : Go (fIsB true (.bl x) (.bl y) R) (R (.bl (!decide (x = y)))) := ⟨fun z => i_isnotBl z⟩
theorem i_rbl {b : Bool} {P : Bool → Prop} (q : P b) : ∃ c, Rv.d (.bl b) = .d (.bl c) ∧ P c := ⟨b, rfl, q⟩
instance {b : Bool} {P : Bool → Prop} : Go (∃ c, Rv.d (.bl b) = .d (.bl c) ∧ P c) (P b) := ⟨fun z => i_rbl z⟩
theorem i_isO2 {P : Prop} (q : P) : (∀ C' fs', D.obj C fs = .obj C' fs' → C' = C) ∧ P := ⟨fun C' fs' e => by cases e; rfl, q⟩
instance {P : Prop} : Go ((∀ C' fs', D.obj C fs = .obj C' fs' → C' = C) ∧ P) (P) := ⟨fun z => i_isO2 z⟩
end
end DL
set_option Elab.async false
set_option linter.all false
set_option autoImplicit false
set_option maxRecDepth 100000
set_option maxHeartbeats 4000000
/-! DL14: tuple(x), list * n, x in a list of scalars, comprehensions with tests, calls that hand out instances. -/
namespace DL
open PySem PySem.Spec PyProof.Rows L2
section
variable {X : Xb} {K : PySem.W.Frag} {a b c e : Expr} {ta tb tc te : TE} {wa wb wc we : WE} {pos p : Pos}
/-- tuple(x) -/
def dTupOf (wa : WE) : WE := fun γ Q => wa γ fun x γ1 => ∃ ds, (x = .lst ds ∨ x = .tup ds) ∧ Q (.tup ds) γ1
/-- xs * n -/
def dRep (wa wb : WE) : WF := fun γ Q => wa γ fun x γ1 => wb γ1 fun y γ2 => ∃ ds k, x = .lst ds ∧ y = .int k ∧ (-(2 ^ 63) ≤ k ∧ k < 2 ^ 63 ∧ ds.length * k.toNat ≤ sizeLine) ∧ Q (List.replicate k.toNat ds).flatten γ2
/-- x in xs, all of them scalars -/
def scalL (ds : List D) (vs : List V) : Prop := ds.map scalD = vs.map some
theorem scalL_den {S : Hp} : ∀ {ds : List D} {vs xs : List V}, DenL S xs ds → scalL ds vs → xs = vs
  | [], [], xs, h, _ => h.nil_inv
  | [], _ :: _, _, _, e => by cases e
  | _ :: _, [], _, _, e => by cases e
  | d :: ds, v :: vs, xs, h, e => by
    obtain ⟨x, r, rfl, h1, h2⟩ := h.cons_inv
    have e1 : scalD d = some v := (List.cons.inj e).1
    have e2 : scalL ds vs := (List.cons.inj e).2
    rw [scalD_den h1 e1, scalL_den h2 e2]
theorem scal_flat {d : D} {v : V} (h : scalD d = some v) : flatV v = true := by
  cases d <;> first | (cases h; rfl) | cases h
theorem scalL_flat : ∀ {ds : List D} {vs : List V}, scalL ds vs → vs.all flatV = true
  | [], [], _ => rfl
  | [], _ :: _, e => by cases e
  | _ :: _, [], e => by cases e
  | d :: ds, v :: vs, e => by
    rw [List.all_cons, scal_flat (List.cons.inj e).1, scalL_flat (ds := ds) (List.cons.inj e).2]
    rfl
def fInL (neg : Bool) (x y : D) (Q : D → Prop) : Prop := ∃ ds v vs, (y = .lst ds ∨ y = .tup ds) ∧ scalD x = some v ∧ scalL ds vs ∧ Q (.bl (if neg then !inV v vs else inV v vs))
theorem ops_inL {neg : Bool} : OpSK X (rIn K neg) (fInL neg) := by
  refine ⟨fun x y P P' k ⟨ds, v, vs, e, h1, h2, q⟩ => ⟨ds, v, vs, e, h1, h2, k _ q⟩, fun B S H σ γ Q v u x y R d1 d2 ⟨ds, w, vs, e, h1, h2, q⟩ => ?_⟩
  have ev := scalD_den d1 h1
  subst ev
  rcases e with e | e
  · subst e
    obtain ⟨a, xs, rfl, g2, g3⟩ := d2.lst_inv
    have ex := scalL_den g3 h2
    subst ex
    exact ⟨a, xs, rfl, .inl (SqL.of (R.same _ _ g2)), scal_flat h1, scalL_flat h2, q _ S H R (Same.refl S) (.bl _)⟩
  · subst e
    obtain ⟨a, xs, rfl, g2, g3⟩ := d2.tup_inv
    have ex := scalL_den g3 h2
    subst ex
    exact ⟨a, xs, rfl, .inr (SqT.of (R.same _ _ g2)), scal_flat h1, scalL_flat h2, q _ S H R (Same.refl S) (.bl _)⟩
theorem dt_inL (K' : PySem.W.Frag) (ha : DE X a ta wa) (hb : DE X b tb wb) (hm : behindInMarks .In b = false := by rfl) (hK : X.K = K' := by rfl) : DT X (.Compare a [.In] [b] pos) (tTest (tOp (rIn K' false) ta tb)) (dB (dOp (fInL false) wa wb)) := by
  subst hK; exact ⟨pt_cmpR op_in_seq ha.pe hb.pe hm, st_test (se_opK ops_inL ha.se hb.se)⟩
/-- a call that hands out a new instance -/
def dCallN (s : SpecD) (w : WA) : WN := fun γ Q => w γ fun ds γ1 => s.S ds fun r => ∃ C fs, r = .o C fs ∧ Q C fs γ1
end
section
variable {γ : List Sl} {wa wb we : WE} {Q : D → List Sl → Prop} {QF : List D → List Sl → Prop} {QN : Addr → List (Str × D) → List Sl → Prop} {m n : Int} {R : D → Prop} {wt : WT} {wg : WG} {ds : List D} {w : WA} {s : SpecD}
theorem i_tupOf (q : wa γ fun x γ1 => ∃ ds, (x = .lst ds ∨ x = .tup ds) ∧ Q (.tup ds) γ1) : dTupOf wa γ Q := q
instance : Go (dTupOf wa γ Q) (wa γ fun x γ1 => ∃ ds, (x = .lst ds ∨ x = .tup ds) ∧ Q (.tup ds) γ1) := ⟨fun z => i_tupOf z⟩
theorem i_rep (q : wa γ fun x γ1 => wb γ1 fun y γ2 => ∃ ds k, x = .lst ds ∧ y = .int k ∧ (-(2 ^ 63) ≤ k ∧ k < 2 ^ 63 ∧ ds.length * k.toNat ≤ sizeLine) ∧ QF (List.replicate k.toNat ds).flatten γ2) : dRep wa wb γ QF := q
instance : Go (dRep wa wb γ QF) (wa γ fun x γ1 => wb γ1 fun y γ2 => ∃ ds k, x = .lst ds ∧ y = .int k ∧ (-(2 ^ 63) ≤ k ∧ k < 2 ^ 63 ∧ ds.length * k.toNat ≤ sizeLine) ∧ QF (List.replicate k.toNat ds).flatten γ2) := ⟨fun z => i_rep z⟩
theorem i_callN (q : w γ fun ds γ1 => s.S ds fun r => ∃ C fs, r = .o C fs ∧ QN C fs γ1) : dCallN s w γ QN := q
instance : Go (dCallN s w γ QN) (w γ fun ds γ1 => s.S ds fun r => ∃ C fs, r = .o C fs ∧ QN C fs γ1) := ⟨fun z => i_callN z⟩
theorem i_ro {C : Addr} {fs : List (Str × D)} {P : Addr → List (Str × D) → Prop} (q : P C fs) : ∃ C' fs', Rv.o C fs = .o C' fs' ∧ P C' fs' := ⟨C, fs, rfl, q⟩
instance {C : Addr} {fs : List (Str × D)} {P : Addr → List (Str × D) → Prop} : Go (∃ C' fs', Rv.o C fs = .o C' fs' ∧ P C' fs') (P C fs) := ⟨fun z => i_ro z⟩
end
end DL
set_option Elab.async false
set_option linter.all false
set_option autoImplicit false
set_option maxRecDepth 100000
set_option maxHeartbeats 4000000
/-! DL15: own classes and their methods as they stand; constants of the module. -/
namespace DL
open PySem PySem.Spec PyProof.Rows L2
/-- a method of an own class: where it stands -/
structure Gm (K : PySem.W.Frag) (C : Addr) (m qual : Str) (st : Stmt) (ps : List Str) : Type where
  f : Addr
  fd : FuncData
  F : Fun K m qual st f fd
  meth : Meth K C m f
  b : Binds K fd ps []
section
variable {K : PySem.W.Frag} {C : Addr} {m qual : Str} {st : Stmt} {ps : List Str}
theorem Gm.at (G : Gm K C m qual st ps) : PySem.W.findIn K (.ref C) m = some (some (.ref G.f)) := G.meth.at_
theorem Gm.fn (G : Gm K C m qual st ps) : PySem.W.isFn K (.ref G.f) = true := G.meth.fn
end
/-- an own class: where it stands; the names of its attributes are no names of the class -/
structure Tc (K : PySem.W.Frag) (mg : Str → Option Value) (nm : Str) (fields : List Str) : Type where
  C : Addr
  own : OwnCls K C
  g : mg nm = some (.ref C)
  first : PySem.W.selfFirst K C = true
  no : ∀ f ∈ fields, NoAttr K C f
  makes : PySem.W.makesIn K C = true
  kp : PySem.W.keepIn K (.ref C) = true
section
variable {K : PySem.W.Frag} {mg : Str → Option Value} {nm : Str} {fields : List Str} {qual : Str} {st : Stmt} {ps : List Str}
theorem Tc.fld (T : Tc K mg nm fields) {f : Str} (h : f ∈ fields := by decide) : Cls K T.C ∧ NoAttr K T.C f := ⟨T.own.cl, T.no f h⟩
end
section
variable {X : Xb} {pos : Pos} {x : Str}
end
/-! ### rows of ints as data -/
abbrev intL (ns : List Int) : List D := ns.map D.int
abbrev rowsD (B : List (List Int)) : List D := B.map fun r => .lst (intL r)
/-- what a row stands for, place by place -/
def rowAt (B : List (List Int)) (i : Nat) : List Int := B.getD i []
end DL
set_option Elab.async false
set_option linter.all false
set_option autoImplicit false
set_option maxRecDepth 100000
set_option maxHeartbeats 4000000
/-! DL16: calls that draw and hand out a new list; the same with a list of one's own lent. -/
namespace DL
open PySem PySem.Spec PyProof.Rows L2
section
variable {X : Xb} {K : PySem.W.Frag} {f : Addr} {fd : FuncData} {ps : List Str} {k : Nat} {x : Str} {e : Expr} {es : List Expr} {t : TA} {w : WA} {p pos : Pos}
def dCallPF (i : Nat) (s : SpecP) (w : WA) : WF := fun γ Q => (∃ m pl, γ[i]? = some (.own m pl)) ∧ w γ fun ds γ1 => ∃ m pl, γ1[i]? = some (.own m pl) ∧ s.S pl ds fun r pl' => ∃ es, r = .f es ∧ Q es (γ1.set i (.own m pl'))
/-- the slots while the list in slot j is lent and slot i's list is drawn from -/
def lentP (i j : Nat) (ds pl : List D) (γ : List Sl) : List Sl := (lent j ds γ).set i (.own true pl)
def dCallPL (i j : Nat) (s : SpecP) (w : WA) : WF := fun γ Q => ∃ m ds mp pl, i ≠ j ∧ γ[j]? = some (.own m ds) ∧ γ[i]? = some (.own mp pl) ∧ w (lentP i j ds pl γ) fun as γ1 => γ1 = lentP i j ds pl γ ∧ s.S pl as fun r pl' => ∃ es, r = .f es ∧ flats es ∧ Q es (γ.set i (.own mp pl'))
end
section
variable {γ : List Sl} {i j : Nat} {ds pl : List D} {mm mp : Bool} {s : SpecP} {w : WA} {QF : List D → List Sl → Prop}
theorem i_callPF (g : γ[i]? = some (.own mm pl)) (q : w γ fun ds γ1 => ∃ m pl, γ1[i]? = some (.own m pl) ∧ s.S pl ds fun r pl' => ∃ es, r = .f es ∧ QF es (γ1.set i (.own m pl'))) : dCallPF i s w γ QF := ⟨⟨_, _, g⟩, q⟩
theorem i_same {P : Prop} (q : P) : γ = γ ∧ P := ⟨rfl, q⟩
instance {P : Prop} : Go (γ = γ ∧ P) (P) := ⟨fun z => i_same z⟩
end
/-- a slot is forgotten ahead of what follows -/
def dAny (i : Nat) (w : WS) : WS := fun Dd γ => w Dd (γ.set i .any)
theorem i_any1 {i : Nat} {γ : List Sl} {w : WS} {Dd : EndsD} (q : w Dd (γ.set i .any)) : dAny i w Dd γ := q
instance {i : Nat} {γ : List Sl} {w : WS} {Dd : EndsD} : Go (dAny i w Dd γ) (w Dd (γ.set i .any)) := ⟨fun z => i_any1 z⟩
end DL
set_option Elab.async false
set_option linter.all false
set_option autoImplicit false
set_option maxRecDepth 100000
set_option maxHeartbeats 4000000
/-! DL17: small helps. -/
namespace DL
open PySem PySem.Spec PyProof.Rows L2
theorem nite_f (a b : Bool) : (if false = true then a else b) = b := rfl
theorem nite_t (a b : Bool) : (if true = true then a else b) = a := rfl
end DL
set_option Elab.async false
set_option linter.all false
set_option autoImplicit false
set_option maxRecDepth 100000
set_option maxHeartbeats 4000000
/-! DL18: the head's facts with own classes: any Bool over the heap's part. -/
namespace DL
open PySem PySem.Spec PyProof.Rows L2 He
section
variable {fa : List Fa} {fn : List DefD} {xs : List (PySem.W.Frag → Bool)} {K : PySem.W.Frag}
theorem SaysE.d (c : SaysE fa fn xs K) : SaysD fa fn K := by
  have h1 : ((obsD fa fn K).1 && xs.all fun e => e K) = true := congrArg (fun z : AlD => z.1) c
  have h2 : (obsD fa fn K).2 = fn.map DefD.val := congrArg (fun z : AlD => z.2) c
  have h3 := (ba h1).1
  show obsD fa fn K = valD fn
  exact Prod.ext h3 h2
theorem SaysE.ex (c : SaysE fa fn xs K) (i : Nat) {e : PySem.W.Frag → Bool} (h : xs[i]? = some e := by rfl) : e K = true := by
  have h1 : ((obsD fa fn K).1 && xs.all fun e => e K) = true := congrArg (fun z : AlD => z.1) c
  exact List.all_eq_true.mp (ba h1).2 e (List.mem_of_getElem? h)
end
def Tc.of {K : PySem.W.Frag} {h : Heap} {mg : Str → Option Value} {x : Str} {fields : List Str} (X : K.In h) (G : h.Ns mainGlobals mg) (hg : (Fa.glo x).ok K = true) (hc : clsB x K = true) (hn : noatB x fields K = true) : Tc K mg x fields :=
  have c1 := ba hc
  have c2 := ba c1.2
  have c3 := ba c2.2
  have c4 := ba c3.2
  have c5 := ba c4.2
  have c6 := ba c5.2
  have c7 := ba c6.2
  have c8 := ba c7.2
  have c9 := ba c8.2
  have c10 := ba c9.2
  { C := ga K x
    own := ⟨cls_ok c1.1, eqO_ok c2.1, eqO_ok c3.1, of_decide_eq_true c4.1, of_decide_eq_true c5.1, fun T hT => of_decide_eq_true (List.all_eq_true.mp c6.1 T hT), of_decide_eq_true c7.1, fun T hT => of_decide_eq_true (List.all_eq_true.mp c8.1 T hT)⟩
    g := glo_ok X G hg
    first := c9.1
    no := fun f hf => eqO_ok (List.all_eq_true.mp hn f hf)
    makes := c10.1
    kp := c10.2 }
end DL
set_option Elab.async false
set_option linter.all false
set_option autoImplicit false
set_option maxRecDepth 100000
set_option maxHeartbeats 4000000
/-! DL19: == and != of data of any depth. -/
namespace DL
open PySem PySem.Spec PyProof.Rows L2
mutual
def toP : D → PyData
  | .non => .none | .bl b => .bool b | .int i => .int i | .str s => .str s | .lst ds => .list (toPs ds) | .tup ds => .tuple (toPs ds) | .obj _ _ => .none | .emp => .none | .ref _ => .none
def toPs : List D → List PyData
  | [] => []
  | d :: ds => toP d :: toPs ds
end
mutual
/-- no instances, no dicts -/
def noObj : D → Bool
  | .obj _ _ => false | .emp => false | .ref _ => false | .lst ds => noObjs ds | .tup ds => noObjs ds | _ => true
def noObjs : List D → Bool
  | [] => true
  | d :: ds => noObj d && noObjs ds
end
mutual
/-- no instances, no dicts, no bools -/
def clean : D → Bool
  | .obj _ _ => false | .emp => false | .ref _ => false | .bl _ => false | .lst ds => cleans ds | .tup ds => cleans ds | _ => true
def cleans : List D → Bool
  | [] => true
  | d :: ds => clean d && cleans ds
end
section
variable {K : PySem.W.Frag} {S H : Hp}
mutual
theorem Den.dp (e : Same S H) : ∀ (d : D) (v : V), Den S v d → noObj d = true → Dp K H v (toP d)
  | .non, _, h, _ => by cases h; exact .non
  | .bl b, _, h, _ => by cases h; exact .bl b
  | .int i, _, h, _ => by cases h; exact .int i
  | .str s, _, h, _ => by cases h; exact .str s
  | .lst ds, _, h, n => by
    obtain ⟨a, xs, rfl, h1, h2⟩ := h.lst_inv
    exact .lst (SqL.of (e _ _ h1)) (DenL.dp e ds xs h2 n)
  | .tup ds, _, h, n => by
    obtain ⟨a, xs, rfl, h1, h2⟩ := h.tup_inv
    exact .tup (SqT.of (e _ _ h1)) (DenL.dp e ds xs h2 n)
  | .obj _ _, _, _, n => by cases n
  | .emp, _, _, n => by cases n
  | .ref _, _, _, n => by cases n
theorem DenL.dp (e : Same S H) : ∀ (ds : List D) (xs : List V), DenL S xs ds → noObjs ds = true → DpAll K H xs (toPs ds)
  | [], xs, h, _ => by rw [h.nil_inv]; exact .nil
  | d :: ds, xs, h, n => by
    have n : (noObj d && noObjs ds) = true := n
    rw [Bool.and_eq_true] at n
    obtain ⟨x, r, rfl, h1, h2⟩ := h.cons_inv
    exact .cons (Den.dp e d x h1 n.1) (DenL.dp e ds r h2 n.2)
end
end
/-- data that == takes -/
structure PlD (d : D) : Prop where
  no : noObj d = true
  sh : SeqAt.shaped (toP d) = true
def eqD (x y : D) : Bool := PyData.eqv (toP x) (toP y)
def fEqD (neg : Bool) (x y : D) (Q : D → Prop) : Prop := PlD x ∧ PlD y ∧ Q (.bl (if neg then !eqD x y else eqD x y))
theorem ops_neD {X : Xb} : OpSK X (rNeD X.K) (fEqD true) := by
  refine ⟨fun x y P P' k ⟨h1, h2, q⟩ => ⟨h1, h2, k _ q⟩, fun B S H σ γ Q v u x y R d1 d2 ⟨h1, h2, q⟩ => ?_⟩
  exact ⟨toP x, toP y, Den.dp R.same x v d1 h1.no, Den.dp R.same y u d2 h2.no, h1.sh, h2.sh, q _ S H R (Same.refl S) (.bl _)⟩
section
variable {X : Xb} {a b : Expr} {ta tb : TE} {wa wb : WE} {pos : Pos} {k : Nat}
theorem dt_neD (K' : PySem.W.Frag) (hr : Room k X.A) (ha : DE X a ta wa) (hb : DE X b tb wb) (hK : X.K = K' := by rfl) : DT X (.Compare a [.NotEq] [b] pos) (tTest (tOp (rNeD K') ta tb)) (dB (dOp (fEqD true) wa wb)) := by
  subst hK
  exact ⟨pt_cmpR (op_neD (by have h := hr.un; dsimp only [Xb.A] at h ⊢; omega)) ha.pe hb.pe (nomark _), st_test (se_opK ops_neD ha.se hb.se)⟩
end
/-! ### what == says -/
mutual
theorem eqv_iff : ∀ (d e : D), clean d = true → clean e = true → (PyData.eqv (toP d) (toP e) = true ↔ d = e)
  | .non, e, _, h => by cases e <;> first | (cases h; done) | (simp [toP, PyData.eqv]; done)
  | .int i, e, _, h => by cases e <;> first | (cases h; done) | (simp [toP, PyData.eqv]; done)
  | .str i, e, _, h => by cases e <;> first | (cases h; done) | (simp [toP, PyData.eqv]; done)
  | .lst ds, e, k, h => by
    cases e with
    | lst es => simp only [toP, PyData.eqv, D.lst.injEq]; exact eqvs_iff ds es k h
    | _ => first | (cases h; done) | (simp [toP, PyData.eqv]; done)
  | .tup ds, e, k, h => by
    cases e with
    | tup es => simp only [toP, PyData.eqv, D.tup.injEq]; exact eqvs_iff ds es k h
    | _ => first | (cases h; done) | (simp [toP, PyData.eqv]; done)
  | .bl _, _, k, _ => by cases k
  | .obj _ _, _, k, _ => by cases k
  | .emp, _, k, _ => by cases k
  | .ref _, _, k, _ => by cases k
theorem eqvs_iff : ∀ (ds es : List D), cleans ds = true → cleans es = true → (PyData.eqvAll (toPs ds) (toPs es) = true ↔ ds = es)
  | [], [], _, _ => by simp [toPs, PyData.eqvAll]
  | [], _ :: _, _, _ => by simp [toPs, PyData.eqvAll]
  | _ :: _, [], _, _ => by simp [toPs, PyData.eqvAll]
  | d :: ds, e :: es, k, h => by
    have k : (clean d && cleans ds) = true := k
    have h : (clean e && cleans es) = true := h
    rw [Bool.and_eq_true] at k h
    simp only [toPs, PyData.eqvAll, Bool.and_eq_true, List.cons.injEq]
    rw [eqv_iff d e k.1 h.1, eqvs_iff ds es k.2 h.2]
end
theorem eqD_iff {d e : D} (h : clean d = true) (k : clean e = true) : eqD d e = true ↔ d = e := eqv_iff d e h k
theorem eqD_dec {d e : D} (h : clean d = true) (k : clean e = true) {p : Prop} [Decidable p] (i : d = e ↔ p) : eqD d e = decide p := by
  by_cases q : p
  · rw [decide_eq_true q]; exact (eqD_iff h k).mpr (i.mpr q)
  · rw [decide_eq_false q]
    cases z : eqD d e with
    | false => rfl
    | true => exact absurd (i.mp ((eqD_iff h k).mp z)) q
/-! ### lists of ints, of rows -/
theorem cleans_of {ds : List D} (h : ∀ d ∈ ds, clean d = true) : cleans ds = true := by
  induction ds with
  | nil => rfl
  | cons d ds ih => show (clean d && cleans ds) = true; rw [h d (List.mem_cons_self ..), ih fun e he => h e (List.mem_cons_of_mem _ he)]; rfl
theorem noObjs_of {ds : List D} (h : ∀ d ∈ ds, noObj d = true) : noObjs ds = true := by
  induction ds with
  | nil => rfl
  | cons d ds ih => show (noObj d && noObjs ds) = true; rw [h d (List.mem_cons_self ..), ih fun e he => h e (List.mem_cons_of_mem _ he)]; rfl
theorem lay_of : ∀ {ds : List D}, (∀ d ∈ ds, (toP d).canLay0 = true) → PyData.canLayAll0 (toPs ds) = true
  | [], _ => by simp [toPs, PyData.canLayAll0]
  | d :: ds, h => by simp only [toPs, PyData.canLayAll0, Bool.and_eq_true]; exact ⟨h d (List.mem_cons_self ..), lay_of fun e he => h e (List.mem_cons_of_mem _ he)⟩
theorem depth_of {n : Nat} : ∀ {ds : List D}, (∀ d ∈ ds, (toP d).depth ≤ n) → PyData.depthAll (toPs ds) ≤ n
  | [], _ => by simp [toPs, PyData.depthAll]
  | d :: ds, h => by
    simp only [toPs, PyData.depthAll]
    exact Nat.max_le.mpr ⟨h d (List.mem_cons_self ..), depth_of fun e he => h e (List.mem_cons_of_mem _ he)⟩
/-- data of depth n that == takes -/
structure PlN (n : Nat) (d : D) : Prop where
  no : noObj d = true
  lay : (toP d).canLay0 = true
  dep : (toP d).depth ≤ n
theorem PlN.pl {n : Nat} {d : D} (h : PlN n d) (hn : n ≤ 64) : PlD d := ⟨h.no, by unfold SeqAt.shaped; rw [h.lay, decide_eq_true (Nat.le_trans h.dep hn)]; rfl⟩
theorem pl_int {n : Nat} (i : Int) : PlN n (.int i) := ⟨rfl, by simp [toP, PyData.canLay0], by simp [toP, PyData.depth]⟩
theorem pl_bl {n : Nat} (b : Bool) : PlN n (.bl b) := ⟨rfl, by simp [toP, PyData.canLay0], by simp [toP, PyData.depth]⟩
theorem pl_lst {n : Nat} {ds : List D} (h : ∀ d ∈ ds, PlN n d) : PlN (n + 1) (.lst ds) :=
  ⟨noObjs_of fun d hd => (h d hd).no, by simp only [toP, PyData.canLay0]; exact lay_of fun d hd => (h d hd).lay, by simp only [toP, PyData.depth]; have := depth_of fun d hd => (h d hd).dep; omega⟩
theorem pl_ints {n : Nat} (ns : List Int) : PlN (n + 1) (.lst (intL ns)) := pl_lst fun d hd => by
  obtain ⟨i, _, rfl⟩ := List.mem_map.mp hd
  exact pl_int i
theorem pl_rows {n : Nat} (B : List (List Int)) : PlN (n + 2) (.lst (rowsD B)) := pl_lst fun d hd => by
  obtain ⟨r, _, rfl⟩ := List.mem_map.mp hd
  exact pl_ints r
theorem clean_ints (ns : List Int) : clean (.lst (intL ns)) = true := cleans_of fun d hd => by
  obtain ⟨i, _, rfl⟩ := List.mem_map.mp hd
  rfl
theorem clean_rows (B : List (List Int)) : clean (.lst (rowsD B)) = true := cleans_of fun d hd => by
  obtain ⟨r, _, rfl⟩ := List.mem_map.mp hd
  exact clean_ints r
theorem intL_inj : ∀ {a b : List Int}, intL a = intL b → a = b
  | [], [], _ => rfl
  | [], _ :: _, h => by cases h
  | _ :: _, [], h => by cases h
  | x :: a, y :: b, h => by
    obtain ⟨h1, h2⟩ := List.cons.inj h
    rw [D.int.inj h1, intL_inj h2]
theorem rowsD_inj : ∀ {A B : List (List Int)}, rowsD A = rowsD B → A = B
  | [], [], _ => rfl
  | [], _ :: _, h => by cases h
  | _ :: _, [], h => by cases h
  | x :: a, y :: b, h => by
    obtain ⟨h1, h2⟩ := List.cons.inj h
    rw [intL_inj (D.lst.inj h1), rowsD_inj h2]
theorem eqD_ints (a b : List Int) : eqD (.lst (intL a)) (.lst (intL b)) = decide (a = b) := eqD_dec (clean_ints a) (clean_ints b) ⟨fun h => intL_inj (D.lst.inj h), fun h => by rw [h]⟩
theorem eqD_rows (A B : List (List Int)) : eqD (.lst (rowsD A)) (.lst (rowsD B)) = decide (A = B) := eqD_dec (clean_rows A) (clean_rows B) ⟨fun h => rowsD_inj (D.lst.inj h), fun h => by rw [h]⟩
section
variable {R : D → Prop}
theorem i_eqDI {a b : List Int} (q : R (.bl (decide (a = b)))) : fEqD false (.lst (intL a)) (.lst (intL b)) R := ⟨(pl_ints (n := 1) a).pl (by decide), (pl_ints (n := 1) b).pl (by decide), by rw [eqD_ints]; exact q⟩
instance {a b : List Int} : Go (fEqD false (.lst (intL a)) (.lst (intL b)) R) (R (.bl (decide (a = b)))) := ⟨fun z => i_eqDI z⟩
theorem i_neDI {a b : List Int} (q : R (.bl (!decide (a = b)))) : fEqD true (.lst (intL a)) (.lst (intL b)) R := ⟨(pl_ints (n := 1) a).pl (by decide), (pl_ints (n := 1) b).pl (by decide), by rw [eqD_ints]; exact q⟩
instance {a b : List Int} : Go (fEqD true (.lst (intL a)) (.lst (intL b)) R) (R (.bl (!decide (a = b)))) := ⟨fun z => i_neDI z⟩
theorem i_eqDR {A B : List (List Int)} (q : R (.bl (decide (A = B)))) : fEqD false (.lst (rowsD A)) (.lst (rowsD B)) R := ⟨(pl_rows (n := 1) A).pl (by decide), (pl_rows (n := 1) B).pl (by decide), by rw [eqD_rows]; exact q⟩
instance {A B : List (List Int)} : Go (fEqD false (.lst (rowsD A)) (.lst (rowsD B)) R) (R (.bl (decide (A = B)))) := ⟨fun z => i_eqDR z⟩
theorem i_neDR {A B : List (List Int)} (q : R (.bl (!decide (A = B)))) : fEqD true (.lst (rowsD A)) (.lst (rowsD B)) R := ⟨(pl_rows (n := 1) A).pl (by decide), (pl_rows (n := 1) B).pl (by decide), by rw [eqD_rows]; exact q⟩
instance {A B : List (List Int)} : Go (fEqD true (.lst (rowsD A)) (.lst (rowsD B)) R) (R (.bl (!decide (A = B)))) := ⟨fun z => i_neDR z⟩
end
/-- a Bool that tells p -/
noncomputable def dP (p : Prop) : Bool := @decide p (Classical.propDecidable p)
end DL
set_option Elab.async false
set_option linter.all false
set_option autoImplicit false
set_option maxRecDepth 100000
set_option maxHeartbeats 4000000
/-! DL20: comprehensions of two clauses. -/
namespace DL
open PySem PySem.Spec PyProof.Rows L2

def dLc2 (wi : WA) (wg : WG) (wt : WT) (wi1 : WA) (wg1 : WG) (wt1 : WT) (we : WE) (vs vs1 : List Nat) : WF := fun γ Q => wi γ fun ds γ1 => (∀ v ∈ vs, ∀ s, γ1[v]? = some s → s = .any) ∧ ∃ I : Nat → List D → List Sl → Prop, I 0 [] γ1 ∧
  (∀ i acc γ d, ds[i]? = some d → I i acc γ → (∀ v ∈ vs, ∀ s, γ[v]? = some s → s = .any) ∧ wg d γ fun γ2 => wt γ2 fun b γ3 => if b = true then
    wi1 γ3 fun ds1 γ4 => (∀ v ∈ vs1, ∀ s, γ4[v]? = some s → s = .any) ∧ ∃ I1 : Nat → List D → List Sl → Prop, I1 0 acc γ4 ∧
      (∀ j acc γ d, ds1[j]? = some d → I1 j acc γ → (∀ v ∈ vs1, ∀ s, γ[v]? = some s → s = .any) ∧ wg1 d γ fun γ5 => wt1 γ5 fun b γ6 => if b = true then we γ6 fun y γ7 => acc.length < sizeLine ∧ I1 (j + 1) (acc ++ [y]) (wipeG γ7 vs1) else I1 (j + 1) acc (wipeG γ6 vs1)) ∧
      ∀ acc γ, I1 ds1.length acc γ → (∀ v ∈ vs1, ∀ s, γ[v]? = some s → s = .any) ∧ I (i + 1) acc (wipeG γ vs)
    else I (i + 1) acc (wipeG γ3 vs)) ∧
  ∀ acc γ, I ds.length acc γ → (∀ v ∈ vs, ∀ s, γ[v]? = some s → s = .any) ∧ Q acc γ
section
variable {X : Xb} {K : PySem.W.Frag}
end
/-- all the items of an inner list, turn by turn -/
def dLs2 (n m : Nat) (g : Nat → Nat → D) : List D := (List.range n).flatMap fun i => dLs m (g i)
def Lc2G (items : List D) (γ : List Sl) (wg : WG) (wt : WT) (wi1 : WA) (wg1 : WG) (wt1 : WT) (we : WE) (vs vs1 : List Nat) (QF : List D → List Sl → Prop) : Prop := dLc2 (fun γ Q => Q items γ) wg wt wi1 wg1 wt1 we vs vs1 γ QF
section
variable {γ : List Sl} {we : WE} {QF : List D → List Sl → Prop} {wg wg1 : WG} {wt wt1 : WT} {wi1 : WA} {vs vs1 : List Nat}
theorem i_lc2 {wi : WA} (q : wi γ fun ds γ1 => Lc2G ds γ1 wg wt wi1 wg1 wt1 we vs vs1 QF) : dLc2 wi wg wt wi1 wg1 wt1 we vs vs1 γ QF := q
instance {wi : WA} : Go (dLc2 wi wg wt wi1 wg1 wt1 we vs vs1 γ QF) (wi γ fun ds γ1 => Lc2G ds γ1 wg wt wi1 wg1 wt1 we vs vs1 QF) := ⟨fun z => i_lc2 z⟩
end
end DL
set_option Elab.async false
set_option linter.all false
set_option autoImplicit false
set_option maxRecDepth 100000
set_option maxHeartbeats 4000000
/-! DL21: match statements of texts: cases of words, of words joined by |, and the rest. -/
namespace DL
open PySem PySem.Spec PyProof.Rows L2

/-- a pattern of words -/
structure PPat (X : Xb) (p : Pattern) (ls : List Str) : Prop where
  run : ∀ (pins : List (Addr × Obj)) (s : Shared) (σ : L2.St) (H : Hp) (z : Str) (u : Value), Inv X pins σ H s → RelV (.str z) u →
    wpAny (model X.prog X.w) X.A (matchPattern p X.env u) (fun r s' => Inv X pins σ H s' ∧ r = if z ∈ ls then some [] else none) X.xe s
structure PPats (X : Xb) (ps : List Pattern) (ls : List Str) : Prop where
  run : ∀ (pins : List (Addr × Obj)) (s : Shared) (σ : L2.St) (H : Hp) (z : Str) (u : Value), Inv X pins σ H s → RelV (.str z) u →
    wpAny (model X.prog X.w) X.A (matchFirst ps X.env u) (fun r s' => Inv X pins σ H s' ∧ r = if z ∈ ls then some [] else none) X.xe s
abbrev TMs := V → TS
structure PM (X : Xb) (cs : List MatchCase) (t : TMs) : Prop where
  run : ∀ (first : Bool) (pins : List (Addr × Obj)) (s : Shared) (σ : L2.St) (H : Hp) (D : Ends) (v : V) (u : Value), Inv X pins σ H s → RelV v u → t v D σ H → wpAny (model X.prog X.w) X.A (matchCases cs X.env u first) (SP X pins D) X.xe s
def tMnil : TMs := fun _ D σ H => D.nx σ H
def tMany (tb : TS) : TMs := fun _ D σ H => tb D σ H
def tMstr (ls : List Str) (tb : TS) (tr : TMs) : TMs := fun v D σ H => ∃ z, v = .str z ∧ if z ∈ ls then tb D σ H else tr v D σ H
def tMatch (te : TE) (tm : TMs) : TS := fun D σ H => te σ H fun v H1 => tm v D σ H1
section
variable {X : Xb} {pos p1 : Pos} {e : Expr} {te : TE} {tb : TS} {tm : TMs} {body : List Stmt} {rest : List MatchCase} {pat : Pattern} {ls : List Str} {pats : List Pattern}
end

/-! ### over data -/
abbrev WM := D → WS
structure SM (X : Xb) (t : TMs) (w : WM) : Prop where
  run : ∀ B S0 S H σ γ Dd D v d, Rel X B S H σ γ → Same S0 S → Link X B S0 Dd D → Den S v d → w d Dd γ → t v D σ H
structure DM (X : Xb) (cs : List MatchCase) (t : TMs) (w : WM) : Prop where
  pm : PM X cs t
  sm : SM X t w
def dMnil : WM := fun _ Dd γ => Dd.nx γ
def dMany (wb : WS) : WM := fun _ Dd γ => wb Dd γ
def dMstr (ls : List Str) (wb : WS) (wr : WM) : WM := fun d Dd γ => ∃ z, d = .str z ∧ if z ∈ ls then wb Dd γ else wr d Dd γ
def dMatch (we : WE) (wm : WM) : WS := fun Dd γ => we γ fun d γ1 => wm d Dd γ1
section
variable {X : Xb} {pos p1 : Pos} {e : Expr} {te : TE} {we : WE} {tb : TS} {wb : WS} {tm : TMs} {wm : WM} {body : List Stmt} {rest : List MatchCase} {pat : Pattern} {ls : List Str}
end
section
variable {γ : List Sl} {Dd : EndsD} {we : WE} {wm : WM} {wb : WS} {ls : List Str} {z : Str}
theorem i_match (q : we γ fun d γ1 => wm d Dd γ1) : dMatch we wm Dd γ := q
instance : Go (dMatch we wm Dd γ) (we γ fun d γ1 => wm d Dd γ1) := ⟨fun z => i_match z⟩
theorem i_mAny {d : D} (q : wb Dd γ) : dMany wb d Dd γ := q
instance {d : D} : Go (dMany wb d Dd γ) (wb Dd γ) := ⟨fun z => i_mAny z⟩
theorem i_mNil {d : D} (q : Dd.nx γ) : dMnil d Dd γ := q
instance {d : D} : Go (dMnil d Dd γ) (Dd.nx γ) := ⟨fun z => i_mNil z⟩
end
end DL
set_option Elab.async false
set_option linter.all false
set_option autoImplicit false
set_option maxRecDepth 100000
set_option maxHeartbeats 4000000
/-! DL22: defs that change two lists of the caller: the pool and a flat one. -/
namespace DL
open PySem PySem.Spec PyProof.Rows L2

section
variable {K : PySem.W.Frag} {B : Bs} {S S' H H' SP : Hp} {σ : L2.St} {γ : List Sl} {p q : Addr} {o2 : HO}
/-- a call that changes two things, seen from a heap where the second has changed already -/
theorem Rel0.two (C : Rel0 K ⟨H, S, [p, q], [], SP⟩ S' H' [] []) (npq : p ≠ q) (k1 : S' q = none) (k2 : H' q = some o2) : Rel0 K ⟨upd H q o2, S, [p], [], SP⟩ S' H' [] [] := by
  obtain ⟨φ, r⟩ := C
  refine ⟨fun _ => emptyH, r.same, fun a o e hm => ?_, fun a ha => ?_, r.grow, fun a o e => ?_, rfl, fun i s e => (by simp at e), fun i a o e => (by cases e), fun i a o e => (by cases e), fun i j a o u _ e => (by cases e), fun i a o e => (by cases e), fun p o hp => (by cases hp), List.nodup_nil, r.spS⟩
  · have e : upd H q o2 a = some o := e
    by_cases ha : a = q
    · subst ha; rw [upd_same] at e; cases e; exact k2
    · rw [upd_ne ha] at e
      refine r.keep a o e fun z => ?_
      rcases List.mem_cons.mp z with z | z
      · exact hm (List.mem_singleton.mpr z)
      · exact ha (List.mem_singleton.mp z)
  · have : a = p := List.mem_singleton.mp ha
    subst this
    obtain ⟨f1, ⟨o, f2⟩, f3⟩ := r.muk a (List.mem_cons_self ..)
    exact ⟨f1, ⟨o, by show upd H q o2 a = some o; rw [upd_ne npq]; exact f2⟩, f3⟩
  · rcases r.ext a o e with z | z
    · exact .inl z
    · refine .inr ?_
      show upd H q o2 a = none
      by_cases ha : a = q
      · subst ha; rw [k1] at e; cases e
      · rw [upd_ne ha]; exact z
structure SpecPP where
  S : List D → List D → List D → (Rv → List D → List D → Prop) → Prop
  mono : ∀ pl wl ds P P', (∀ r pl wl, P r pl wl → P' r pl wl) → S pl wl ds P → S pl wl ds P'
def spPP (K : PySem.W.Frag) (s : SpecPP) : Sp := fun vs H Q _ => ∃ S SP p q xs ys pl wl vs' ds, vs = .ref p :: .ref q :: vs' ∧ p ≠ q ∧ Same S H ∧ Same SP S ∧ S p = none ∧ S q = none ∧ H p = some (.lst xs) ∧ H q = some (.lst ys) ∧ DenL SP xs pl ∧ DenL SP ys wl ∧ flats wl ∧ DenL S vs' ds ∧
  s.S pl wl ds fun r pl' wl' => ∀ v S' H' xs' ys', Rel0 K ⟨H, S, [p, q], [], SP⟩ S' H' [] [] → S' p = none → S' q = none → H' p = some (.lst xs') → H' q = some (.lst ys') → DenL SP xs' pl' → DenL SP ys' wl' → RvOk ⟨H, S, [p, q], [], SP⟩ S' H' v r → Q v H'
end
section
variable {X : Xb} {K : PySem.W.Frag} {f : Addr} {fd : FuncData} {ps : List Str} {k : Nat} {x : Str} {e : Expr} {es : List Expr} {t : TA} {w : WA} {p pos : Pos}
/-- a call that draws from the list in slot i and changes the flat one in slot j -/
def dCallPP (i j : Nat) (s : SpecPP) (w : WA) : WE := fun γ Q => i ≠ j ∧ (∃ m pl, γ[i]? = some (.own m pl)) ∧ (∃ m wl, γ[j]? = some (.own m wl)) ∧ w γ fun ds γ1 => ∃ m pl m2 wl, γ1[i]? = some (.own m pl) ∧ γ1[j]? = some (.own m2 wl) ∧ flats wl ∧ s.S pl wl ds fun r pl' wl' => flats wl' ∧ Q r.val ((γ1.set j (.own m2 wl')).set i (.own m pl'))
end
def gamPP (N : List Str) (pl wl ds : List D) : List Sl := .own true pl :: .own true wl :: (ds.map .val ++ List.replicate (N.length - (ds.length + 2)) .any)
section
variable {P : Program} {w : World} {K : PySem.W.Frag} {mg : Str → Option Value} {base : Heap} {x qual : Str} {st : Stmt} {f : Addr} {fd : FuncData} {N ps : List Str} {k : Nat}
end
end DL
set_option Elab.async false
set_option linter.all false
set_option autoImplicit false
set_option maxRecDepth 100000
set_option maxHeartbeats 4000000
/-! DL23: texts: +, str(int), f-strings, join; star items. -/
namespace DL
open PySem PySem.Spec PyProof.Rows L2

def rAddStr : R2 := fun x y H Q => ∃ i j, x = .str i ∧ y = .str j ∧ i.length + j.length ≤ sizeLine ∧ Q (.str (i ++ j)) H
def addSD (x y : D) (Q : D → Prop) : Prop := ∃ i j, x = .str i ∧ y = .str j ∧ i.length + j.length ≤ sizeLine ∧ Q (.str (i ++ j))
def strID (ds : List D) (Q : D → Prop) : Prop := ∃ i : Int, ds = [.int i] ∧ i.natAbs.log2 < 1920 ∧ Q (.str (toString i))
section
variable {X : Xb} {K : PySem.W.Frag} {a b e : Expr} {ta tb te : TE} {wa wb we : WE} {pos p : Pos} {es : List Expr} {t : TA} {w : WA}
/-- a part of an f-string -/
def dFmt (we : WE) : WE := fun γ Q => we γ fun x γ1 => (∃ y : Str, x = .str y ∧ y.length ≤ sizeLine ∧ Q (.str y) γ1) ∨ ∃ i : Int, x = .int i ∧ i.natAbs.log2 < 1920 ∧ Q (.str (toString i)) γ1
inductive DJ (X : Xb) : List Expr → List TE → List WE → Prop where
  | nil : DJ X [] [] []
  | cons {e : Expr} {t : TE} {w : WE} {es : List Expr} {ts : List TE} {ws : List WE} (h : DE X e t w) (r : DJ X es ts ws) : DJ X (e :: es) (t :: ts) (w :: ws)
def dJs : List WE → Str → List Sl → (Str → List Sl → Prop) → Prop
  | [], acc, γ, Q => Q acc γ
  | w :: ws, acc, γ, Q => w γ fun x γ1 => ∃ y : Str, x = .str y ∧ (acc ++ y).length ≤ sizeLine ∧ dJs ws (acc ++ y) γ1 Q
theorem DJ.mono {es : List Expr} {ts : List TE} {ws : List WE} (h : DJ X es ts ws) : ∀ acc γ (P P' : Str → List Sl → Prop), (∀ x γ, P x γ → P' x γ) → dJs ws acc γ P → dJs ws acc γ P' := by
  induction h with
  | nil => exact fun acc γ P P' k q => k _ _ q
  | cons h _ ih => exact fun acc γ P P' k q => h.se.mono γ _ _ (fun x γ1 ⟨y, e, c, q⟩ => ⟨y, e, c, ih _ _ _ _ k q⟩) q
theorem DJ.run {es : List Expr} {ts : List TE} {ws : List WE} (h : DJ X es ts ws) : ∀ B S H σ γ acc (Q : Str → Hp → Prop), Rel X B S H σ γ → dJs ws acc γ (fun x γ' => ∀ S' H', Rel X B S' H' σ γ' → Same S S' → Q x H') → tJs ts acc σ H Q := by
  induction h with
  | nil => exact fun B S H σ γ acc Q R q => q S H R (Same.refl S)
  | cons h r ih =>
    intro B S H σ γ acc Q R q
    refine h.se.run B S H σ γ _ R (h.se.mono γ _ _ (fun x γ1 ⟨y, e, c, q⟩ v S1 H1 R1 e1 d1 => ?_) q)
    subst e; cases d1
    exact ⟨y, rfl, c, ih B S1 H1 σ γ1 _ Q R1 (r.mono _ _ _ _ (fun x γ2 q S2 H2 R2 e2 => q S2 H2 R2 (e1.trans e2)) q)⟩
def dJoined (ws : List WE) : WE := fun γ Q => dJs ws Str.empty γ fun out γ1 => Q (.str out) γ1
/-- *items among arguments -/
def dStar (we : WE) (w : WA) : WA := fun γ Q => we γ fun d γ1 => ∃ xs, (d = .lst xs ∨ d = .tup xs) ∧ w γ1 fun ds γ2 => Q (xs ++ ds) γ2
/-- sep.join(texts) -/
def dJoin (wo we : WE) : WE := fun γ Q => wo γ fun x γ1 => (∃ a, x = .str a) ∧ we γ1 fun y γ2 => ∃ (a : Str) (ys : List Str), x = .str a ∧ y = .lst (ys.map D.str) ∧ (ys.map (·.length)).sum + ys.length * a.length ≤ 16777216 ∧ Q (.str (Txt.join a ys)) γ2
def rJoin (K : PySem.W.Frag) : V → List V → Hp → VK → Prop := fun x xs H Q => ∃ a p, ∃ ys : List Str, x = .str a ∧ xs = [.ref p] ∧ (SqL K H p (ys.map V.str) ∨ SqT K H p (ys.map V.str)) ∧ (ys.map (·.length)).sum + ys.length * a.length ≤ 16777216 ∧ Q (.str (Txt.join a ys)) H
end
end DL
set_option Elab.async false
set_option linter.all false
set_option autoImplicit false
set_option maxRecDepth 100000
set_option maxHeartbeats 4000000
/-! DL24: dicts of the module with text keys and ints, t + u of tuples, calls with a star, head facts with tables. -/
namespace DL
open PySem PySem.Spec PyProof.Rows L2 He

/-! ### a dict of the module -/
structure Dc (K : PySem.W.Frag) (w : World) (mg : Str → Option Value) (x : Str) (kvs : List (Str × Int)) (no : List Str) : Type where
  a : Addr
  g : mg x = some (.ref a)
  D : ∃ es n, KDict K w a es n
  yes : ∀ q ∈ kvs, ∃ u, PySem.W.nsIn K a q.1 = some (some u) ∧ RelV (.int q.2) u
  non : ∀ z ∈ no, PySem.W.nsIn K a z = some none
/-- is the text a key? (none: not known) -/
def kdIn (kvs : List (Str × Int)) (no : List Str) (z : Str) : Option Bool := if z ∈ kvs.map (·.1) then some true else if z ∈ no then some false else none
def kdAt (kvs : List (Str × Int)) (z : Str) : Option Int := kvs.lookup z
section
variable {X : Xb} {K : PySem.W.Frag} {e a b : Expr} {te ta tb : TE} {we wa wb : WE} {pos p : Pos} {x : Str} {kvs : List (Str × Int)} {no : List Str}
def dInKd (kvs : List (Str × Int)) (no : List Str) (we : WE) : WE := fun γ Q => we γ fun y γ1 => ∃ z b, y = .str z ∧ kdIn kvs no z = some b ∧ Q (.bl b) γ1
def rInKd (K : PySem.W.Frag) (a : Addr) : R2 := fun x y H Q => ∃ (z : Str) (r : Option Value), x = .str z ∧ y = .ref a ∧ PySem.W.nsIn K a z = some r ∧ Q (.bl r.isSome) H
def dAtKd (kvs : List (Str × Int)) (we : WE) : WE := fun γ Q => we γ fun y γ1 => ∃ z i, y = .str z ∧ kdAt kvs z = some i ∧ Q (.int i) γ1
/-! ### t + u -/
def dCatT (wa wb : WE) : WE := fun γ Q => wa γ fun x γ1 => wb γ1 fun y γ2 => ∃ ds es, x = .tup ds ∧ y = .tup es ∧ ds.length + es.length ≤ sizeLine ∧ Q (.tup (ds ++ es)) γ2
/-- t[lo:hi] of a tuple -/
def dSlT (wa : WE) (wl wh : WO) : WE := fun γ Q => wa γ fun x γ1 => wl γ1 fun l γ2 => wh γ2 fun h γ3 => ∃ ds, x = .tup ds ∧ Q (.tup (cutL ds l h)) γ3
/-! ### calls with a star -/
variable {f : Addr} {fd : FuncData} {ps : List Str} {k : Nat} {es : List Expr} {t : TA} {w : WA}
end
section
variable {γ : List Sl} {Q : D → List Sl → Prop} {wa wb we : WE} {wl wh : WO} {kvs : List (Str × Int)} {no : List Str} {ds es : List D}
theorem i_inKd (q : we γ fun y γ1 => ∃ z b, y = .str z ∧ kdIn kvs no z = some b ∧ Q (.bl b) γ1) : dInKd kvs no we γ Q := q
instance : Go (dInKd kvs no we γ Q) (we γ fun y γ1 => ∃ z b, y = .str z ∧ kdIn kvs no z = some b ∧ Q (.bl b) γ1) := ⟨fun z => i_inKd z⟩
theorem i_atKd (q : we γ fun y γ1 => ∃ z i, y = .str z ∧ kdAt kvs z = some i ∧ Q (.int i) γ1) : dAtKd kvs we γ Q := q
instance : Go (dAtKd kvs we γ Q) (we γ fun y γ1 => ∃ z i, y = .str z ∧ kdAt kvs z = some i ∧ Q (.int i) γ1) := ⟨fun z => i_atKd z⟩
theorem i_catT (q : wa γ fun x γ1 => wb γ1 fun y γ2 => ∃ ds es, x = .tup ds ∧ y = .tup es ∧ ds.length + es.length ≤ sizeLine ∧ Q (.tup (ds ++ es)) γ2) : dCatT wa wb γ Q := q
instance : Go (dCatT wa wb γ Q) (wa γ fun x γ1 => wb γ1 fun y γ2 => ∃ ds es, x = .tup ds ∧ y = .tup es ∧ ds.length + es.length ≤ sizeLine ∧ Q (.tup (ds ++ es)) γ2) := ⟨fun z => i_catT z⟩
theorem i_slT (q : wa γ fun x γ1 => wl γ1 fun l γ2 => wh γ2 fun h γ3 => ∃ ds, x = .tup ds ∧ Q (.tup (cutL ds l h)) γ3) : dSlT wa wl wh γ Q := q
instance : Go (dSlT wa wl wh γ Q) (wa γ fun x γ1 => wl γ1 fun l γ2 => wh γ2 fun h γ3 => ∃ ds, x = .tup ds ∧ Q (.tup (cutL ds l h)) γ3) := ⟨fun z => i_slT z⟩
end

/-! ### the head's facts, with tables -/
section
variable {fa : List Fa} {fn : List DefD} {xs : List (PySem.W.Frag → Bool)} {ts : List Tab} {w : World} {K : PySem.W.Frag}
theorem SaysET.e (c : SaysET fa fn xs ts w K) : SaysE fa fn xs K := congrArg (fun z : AlT => z.1) c
end
def Dc.of {K : PySem.W.Frag} {w : World} {h : Heap} {mg : Str → Option Value} {x : Str} {kvs : List (Str × Int)} {no : List Str} (X : K.In h) (G : h.Ns mainGlobals mg) (hg : (Fa.glo x).ok K = true) (hd : ∃ es n, KDict K w (ga K x) es n) (hb : kdB x kvs no K = true) : Dc K w mg x kvs no :=
  { a := ga K x
    g := glo_ok X G hg
    D := hd
    yes := fun q hq => valsB_ok (ba hb).1 (q := (q.1, Dv.int q.2)) (List.mem_map.mpr ⟨q, hq, rfl⟩)
    non := fun z hz => eqO_ok (List.all_eq_true.mp (ba hb).2 z hz) }
end DL
set_option Elab.async false
set_option linter.all false
set_option autoImplicit false
set_option maxRecDepth 100000
set_option maxHeartbeats 4000000
/-! DL25: steps for texts, star items, calls that change two lists; loops and comprehensions over lists told by a function. -/
namespace DL
open PySem PySem.Spec PyProof.Rows L2
section
variable {γ : List Sl} {Q : D → List Sl → Prop} {QA : List D → List Sl → Prop} {QF : List D → List Sl → Prop} {wa wb we wo : WE} {wA : WA} {w : WE} {ws : List WE} {ds es : List D} {R : D → Prop} {wg : WG} {Dd : EndsD}
theorem i_fmt (q : we γ fun x γ1 => (∃ y : Str, x = .str y ∧ y.length ≤ sizeLine ∧ Q (.str y) γ1) ∨ ∃ i : Int, x = .int i ∧ i.natAbs.log2 < 1920 ∧ Q (.str (toString i)) γ1) : dFmt we γ Q := q
instance : Go (dFmt we γ Q) (we γ fun x γ1 => (∃ y : Str, x = .str y ∧ y.length ≤ sizeLine ∧ Q (.str y) γ1) ∨ ∃ i : Int, x = .int i ∧ i.natAbs.log2 < 1920 ∧ Q (.str (toString i)) γ1) := ⟨fun z => i_fmt z⟩
theorem i_joined (q : dJs ws Str.empty γ fun out γ1 => Q (.str out) γ1) : dJoined ws γ Q := q
instance : Go (dJoined ws γ Q) (dJs ws Str.empty γ fun out γ1 => Q (.str out) γ1) := ⟨fun z => i_joined z⟩
theorem i_jnil {acc : Str} {QS : Str → List Sl → Prop} (q : QS acc γ) : dJs [] acc γ QS := q
instance {acc : Str} {QS : Str → List Sl → Prop} : Go (dJs [] acc γ QS) (QS acc γ) := ⟨fun z => i_jnil z⟩
theorem i_jcons {acc : Str} {QS : Str → List Sl → Prop} (q : w γ fun x γ1 => ∃ y : Str, x = .str y ∧ (acc ++ y).length ≤ sizeLine ∧ dJs ws (acc ++ y) γ1 QS) : dJs (w :: ws) acc γ QS := q
instance {acc : Str} {QS : Str → List Sl → Prop} : Go (dJs (w :: ws) acc γ QS) (w γ fun x γ1 => ∃ y : Str, x = .str y ∧ (acc ++ y).length ≤ sizeLine ∧ dJs ws (acc ++ y) γ1 QS) := ⟨fun z => i_jcons z⟩
theorem str_len_append (x y : Str) : (x ++ y).length = x.length + y.length := by
  show (x.cps ++ y.cps).size = _
  rw [Array.size_append]; rfl
theorem i_star (q : we γ fun d γ1 => ∃ xs, (d = .lst xs ∨ d = .tup xs) ∧ wA γ1 fun ds γ2 => QA (xs ++ ds) γ2) : dStar we wA γ QA := q
instance : Go (dStar we wA γ QA) (we γ fun d γ1 => ∃ xs, (d = .lst xs ∨ d = .tup xs) ∧ wA γ1 fun ds γ2 => QA (xs ++ ds) γ2) := ⟨fun z => i_star z⟩
theorem i_join (q : wo γ fun x γ1 => (∃ a, x = .str a) ∧ we γ1 fun y γ2 => ∃ (a : Str) (ys : List Str), x = .str a ∧ y = .lst (ys.map D.str) ∧ (ys.map (·.length)).sum + ys.length * a.length ≤ 16777216 ∧ Q (.str (Txt.join a ys)) γ2) : dJoin wo we γ Q := q
instance : Go (dJoin wo we γ Q) (wo γ fun x γ1 => (∃ a, x = .str a) ∧ we γ1 fun y γ2 => ∃ (a : Str) (ys : List Str), x = .str a ∧ y = .lst (ys.map D.str) ∧ (ys.map (·.length)).sum + ys.length * a.length ≤ 16777216 ∧ Q (.str (Txt.join a ys)) γ2) := ⟨fun z => i_join z⟩
theorem i_jo {x : Str} {P : Prop} (q : P) : (∃ a, D.str x = .str a) ∧ P := ⟨⟨x, rfl⟩, q⟩
instance {x : Str} {P : Prop} : Go ((∃ a, D.str x = .str a) ∧ P) (P) := ⟨fun z => i_jo z⟩
end
end DL
namespace DL
open PySem PySem.Spec PyProof.Rows L2
/-- the sizes of statements (the program's table, for the steps) -/
abbrev SZ : List (Str × Int) := [("set", 3), ("carry", 2), ("keep", 3), ("either", 3), ("again", 2), ("call", 4), ("end", 2)]
end DL
namespace DL
open PySem PySem.Spec PyProof.Rows L2
/-- a promise by parameters whose answer is told by a function -/
def SpecD.fn {α : Type} (args : α → List D) (pre : α → Prop) (f : α → Rv) : SpecD := ⟨fun ds Q => ∃ a, ds = args a ∧ pre a ∧ Q (f a), fun ds P P' k ⟨a, e, h, q⟩ => ⟨a, e, h, k _ q⟩⟩
end DL
namespace DL
open PySem PySem.Spec PyProof.Rows L2
def isZ (d : D) : Bool := isI d && !isB d
theorem isZ_i (i : Int) : isZ (.int i) = true := rfl
theorem isZ_b (b : Bool) : isZ (.bl b) = false := rfl
theorem isZ_n : isZ .non = false := rfl
theorem isZ_s (s : Str) : isZ (.str s) = false := rfl
theorem isZ_l (ds : List D) : isZ (.lst ds) = false := rfl
theorem isZ_t (ds : List D) : isZ (.tup ds) = false := rfl
theorem isZ_o (C : Addr) (fs : List (Str × D)) : isZ (.obj C fs) = false := rfl
theorem isZ_e : isZ .emp = false := rfl
end DL
namespace DL
end DL
namespace DL
open PySem PySem.Spec PyProof.Rows L2
end DL
namespace DL
open PySem PySem.Spec PyProof.Rows L2
theorem len_lit (s : String) : (Str.ofString s).length = s.toList.length := by
  have := TL.tl_ofString s
  have h2 : (TL.tl (Str.ofString s)).length = s.toList.length := by rw [this, List.length_map]
  exact h2
theorem len_empty : Str.empty.length = 0 := rfl
end DL
namespace DL
open PySem PySem.Spec PyProof.Rows L2
end DL
namespace DL
open PySem PySem.Spec PyProof.Rows L2
end DL
namespace DL
end DL
set_option Elab.async false
set_option linter.all false
set_option autoImplicit false
set_option maxRecDepth 100000
set_option maxHeartbeats 4000000
/-! DL26: boxes: lists and instances that other things hold and that change. -/
namespace DL
open PySem PySem.Spec PyProof.Rows L2
def updB (L : Bxs) (p : Addr) (b : Bx) : Bxs := fun q => if q = p then some b else L q
def delB (L : Bxs) (p : Addr) : Bxs := fun q => if q = p then none else L q
theorem updB_same {L : Bxs} {p : Addr} {b : Bx} : updB L p b p = some b := if_pos rfl
theorem updB_ne {L : Bxs} {p q : Addr} {b : Bx} (h : q ≠ p) : updB L p b q = L q := if_neg h
theorem delB_same {L : Bxs} {p : Addr} : delB L p p = none := if_pos rfl
theorem delB_ne {L : Bxs} {p q : Addr} (h : q ≠ p) : delB L p q = L q := if_neg h
section
variable {K : PySem.W.Frag} {B : Bs} {S S' F H H' : Hp} {σ : L2.St} {γ : List Sl} {p : Addr} {o : HO} {φ : Nat → Hp} {i : Nat} {m : Bool} {L L' : Bxs} {b b0 : Bx}
theorem BxsOk.at_ (h : BxsOk S F L) (e : L p = some b) : ∃ o, F p = some o ∧ BxOk S (some o) (some b) := by
  have k := h.2 p
  rw [e] at k
  cases hF : F p with
  | none => rw [hF] at k; exact k.elim
  | some o => rw [hF] at k; exact ⟨o, rfl, k⟩
theorem BxsOk.none_ (h : BxsOk S F L) (e : F p = none) : L p = none := by
  have k := h.2 p
  cases hL : L p with
  | none => rfl
  | some b => rw [hL, e] at k; exact k.elim
theorem BxsOk.upd (h : BxsOk S F L) (hb : BxOk S (some o) (some b)) : BxsOk S (upd F p o) (updB L p b) := by
  obtain ⟨⟨ks, hk⟩, h⟩ := h
  refine ⟨⟨p :: ks, fun q hq => ?_⟩, fun q => ?_⟩
  · by_cases e : q = p
    · rw [e]; exact List.mem_cons_self ..
    · rw [updB_ne e] at hq; exact List.mem_cons_of_mem _ (hk q hq)
  · by_cases e : q = p
    · subst e; rw [upd_same, updB_same]; exact hb
    · rw [upd_ne e, updB_ne e]; exact h q
theorem BxsOk.del (h : BxsOk S F L) : BxsOk S (L2.del F p) (delB L p) := by
  obtain ⟨⟨ks, hk⟩, h⟩ := h
  refine ⟨⟨ks, fun q hq => ?_⟩, fun q => ?_⟩
  · by_cases e : q = p
    · subst e; rw [delB_same] at hq; exact (hq rfl).elim
    · rw [delB_ne e] at hq; exact hk q hq
  · by_cases e : q = p
    · subst e; rw [L2.del_same, delB_same]; trivial
    · rw [L2.del_ne e, delB_ne e]; exact h q
theorem BxsOk.mono (h : BxsOk S F L) (e : Same S S') : BxsOk S' F L := ⟨h.1, fun p => (h.2 p).mono e⟩
/-- what is kept aside becomes a box -/
theorem Rel0.addB (R : Rel0 K (B.fram p o) S H σ γ) (hg : γ[i]? = some (.hp m L)) (hb : BxOk S (some o) (some b)) : Rel0 K B S H σ (γ.set i (.hp m (updB L p b))) ∧ L p = none := by
  obtain ⟨φ, r⟩ := R
  obtain ⟨h1, h2, h3, h4⟩ := r.frm p o (List.mem_cons_self ..)
  have n : ((p, o) :: B.fr |>.map (·.1)).Nodup := r.frn
  rw [List.map_cons] at n
  have q : BxsOk S (φ i) L := r.sl i _ hg
  have em : ∀ {j a u}, (if j = i then L2.upd (φ i) p o else φ j) a = some u → (j = i ∧ a = p ∧ u = o) ∨ (φ j a = some u) := fun {j a u} e => by
    by_cases hj : j = i
    · rw [if_pos hj] at e
      by_cases ha : a = p
      · subst ha; rw [upd_same] at e; cases e; exact .inl ⟨hj, rfl, rfl⟩
      · rw [upd_ne ha] at e; subst hj; exact .inr e
    · rw [if_neg hj] at e; exact .inr e
  refine ⟨⟨fun j => if j = i then L2.upd (φ i) p o else φ j, r.same, r.keep, r.muk, r.grow, r.ext, by rw [List.length_set]; exact r.len, fun j t e => ?_, fun j a u e => ?_, fun j a u e => ?_, fun j k a u v hjk e1 e2 => ?_, fun j a u e => ?_, fun q u hq => ?_, (List.nodup_cons.mp n).2, r.spS⟩, q.none_ (h4 i)⟩
  · rw [set_get hg] at e
    by_cases hj : j = i
    · rw [if_pos hj] at e
      cases e
      show SlF K B S (if j = i then L2.upd (φ i) p o else φ j) _ _
      rw [if_pos hj]
      exact q.upd hb
    · rw [if_neg hj] at e
      show SlF K B S (if j = i then L2.upd (φ i) p o else φ j) _ _
      rw [if_neg hj]
      exact r.sl j t e
  · rcases em e with ⟨_, z, z'⟩ | z
    · subst z z'; exact h1
    · exact r.phH j a u z
  · rcases em e with ⟨_, z, z'⟩ | z
    · subst z; exact h2
    · exact r.phS j a u z
  · rcases em e1 with ⟨z1, z2, _⟩ | z2
    · rcases em e2 with ⟨y1, _, _⟩ | y2
      · exact hjk (z1.trans y1.symm)
      · subst z2; rw [h4 k] at y2; cases y2
    · rcases em e2 with ⟨y1, y2, _⟩ | y2
      · subst y2; rw [h4 j] at z2; cases z2
      · exact r.phD j k a u v hjk z2 y2
  · rcases em e with ⟨z1, z2, _⟩ | z2
    · rw [z1, set_get hg, if_pos rfl, z2]
      exact ⟨_, m, rfl, rfl, .inr h3⟩
    · have qo := r.phO j a u z2
      by_cases hj : j = i
      · subst hj
        obtain ⟨s', m', e1, e2, e3⟩ := qo
        rw [hg] at e1
        cases e1
        rw [set_get hg, if_pos rfl]
        exact ⟨_, m', rfl, e2, e3⟩
      · rw [List.getElem?_set_ne (fun z => hj z.symm)]
        exact qo
  · obtain ⟨k1, k2, k3, k4⟩ := r.frm q u (List.mem_cons_of_mem _ hq)
    refine ⟨k1, k2, k3, fun j => ?_⟩
    show (if j = i then L2.upd (φ i) p o else φ j) q = none
    by_cases hj : j = i
    · rw [if_pos hj, upd_ne (fun z => (List.nodup_cons.mp n).1 (by subst z; exact List.mem_map.mpr ⟨_, hq, rfl⟩))]; exact k4 i
    · rw [if_neg hj]; exact k4 j
/-- the boxes behind a call -/
def BxsOut (S' H' : Hp) (L' : Bxs) (mu : List Addr) (H : Hp) : Prop := (∃ ks : List Addr, ∀ p, L' p ≠ none → p ∈ ks) ∧ ∀ p b, L' p = some b → S' p = none ∧ BxOk S' (H' p) (some b) ∧ (p ∈ mu ∨ H p = none)
/-- the part of the heap where boxes stand -/
def partB (L : Bxs) (H : Hp) : Hp := fun a => if (L a).isSome then H a else none
theorem partB_some {a : Addr} {o : HO} (h : partB L H a = some o) : H a = some o ∧ ∃ b, L a = some b := by
  unfold partB at h
  cases hL : L a with
  | none => rw [hL] at h; cases h
  | some b => rw [hL] at h; exact ⟨h, b, rfl⟩
theorem partB_ok (hf : ∃ ks : List Addr, ∀ p, L p ≠ none → p ∈ ks) (h : ∀ p b, L p = some b → BxOk S (H p) (some b)) : BxsOk S (partB L H) L := by
  refine ⟨hf, fun p => ?_⟩
  unfold partB
  cases hL : L p with
  | none => trivial
  | some b => exact h p b hL
/-- behind a call that may change the boxes -/
theorem Rel0.callB (R : Rel0 K B S H σ γ) (hg : γ[i]? = some (.hp m L)) {mu : List Addr} {SP : Hp} (hmu : ∀ a, a ∈ mu → L a ≠ none) (C : Rel0 K ⟨H, S, mu, [], SP⟩ S' H' [] []) (ho : BxsOut S' H' L' mu H) : Rel0 K B S' H' σ (γ.set i (.hp m L')) := by
  obtain ⟨φ, r⟩ := R
  have q : BxsOk S (φ i) L := r.sl i _ hg
  have mine : ∀ a, a ∈ mu → ∃ o, φ i a = some o := fun a ha => by
    cases hL : L a with
    | none => exact (hmu a ha hL).elim
    | some b => obtain ⟨o, e, _⟩ := q.at_ hL; exact ⟨o, e⟩
  have hk : ∀ a o, H a = some o → a ∉ mu → H' a = some o := fun a o e n => C.keep a o e n
  have hS : ∀ a o, H a = some o → S a = none → S' a = none := fun a o e n => by
    cases q : S' a with
    | none => rfl
    | some u =>
      rcases C.ext a u q with z | z
      · have z' : S a = some u := z
        rw [n] at z'; cases z'
      · have z' : H a = none := z
        rw [e] at z'; cases z'
  have other : ∀ {j a v}, j ≠ i → φ j a = some v → a ∉ mu := fun {j a v} hj e ha => by
    obtain ⟨o, e2⟩ := mine a ha
    exact r.phD j i _ _ _ hj e e2
  have em : ∀ {j a v}, (if j = i then partB L' H' else φ j) a = some v → (j = i ∧ H' a = some v ∧ ∃ b, L' a = some b) ∨ (j ≠ i ∧ φ j a = some v) := fun {j a v} e => by
    by_cases hj : j = i
    · rw [if_pos hj] at e; exact .inl ⟨hj, partB_some e⟩
    · rw [if_neg hj] at e; exact .inr ⟨hj, e⟩
  have newp : ∀ {a b}, L' a = some b → ∀ {j v}, j ≠ i → φ j a = some v → False := fun {a b} e {j v} hj e2 => by
    rcases (ho.2 a b e).2.2 with z | z
    · exact other hj e2 z
    · rw [r.phH j _ _ e2] at z; cases z
  have muk : ∀ a, a ∈ mu → ∃ o, H' a = some o := fun a ha => (C.muk a ha).2.2
  refine ⟨fun j => if j = i then partB L' H' else φ j, C.same, fun a x e hm => ?_, fun a ha => ?_, fun a x e => C.grow a x (r.grow a x e), fun a x e => ?_, by rw [List.length_set]; exact r.len, fun j t' e => ?_, fun j a v e => ?_, fun j a v e => ?_, fun j k a v w hjk e1 e2 => ?_, fun j a v e => ?_, fun q v hq => ?_, r.frn, r.spS⟩
  · refine hk a x (r.keep a x e hm) fun z => ?_
    obtain ⟨o, e2⟩ := mine a z
    obtain ⟨s', m', _, _, h | h⟩ := r.phO i _ _ e2
    · exact hm (Sl.at_mem h.2)
    · rw [e] at h; cases h
  · obtain ⟨f1, f2, x, f3⟩ := r.muk a ha
    by_cases hap : a ∈ mu
    · exact ⟨f1, f2, muk a hap⟩
    · exact ⟨f1, f2, x, hk a _ f3 hap⟩
  · rcases C.ext a x e with z | z
    · exact r.ext a x z
    · exact .inr (r.fresh0 z)
  · rw [set_get hg] at e
    by_cases hj : j = i
    · rw [if_pos hj] at e
      cases e
      show SlF K B S' (if j = i then partB L' H' else φ j) _ _
      rw [if_pos hj]
      exact partB_ok ho.1 fun p b e => (ho.2 p b e).2.1
    · rw [if_neg hj] at e
      show SlF K B S' (if j = i then partB L' H' else φ j) _ _
      rw [if_neg hj]
      exact (r.sl j t' e).mono C.grow
  · rcases em e with ⟨_, z, _⟩ | ⟨hj, z⟩
    · exact z
    · exact hk a v (r.phH j a v z) (other hj z)
  · rcases em e with ⟨_, z, b, hb⟩ | ⟨hj, z⟩
    · exact (ho.2 a b hb).1
    · exact hS a v (r.phH j a v z) (r.phS j a v z)
  · rcases em e1 with ⟨z1, _, b1, hb1⟩ | ⟨z1, z2⟩
    · rcases em e2 with ⟨y1, _, _⟩ | ⟨y1, y2⟩
      · exact hjk (z1.trans y1.symm)
      · exact newp hb1 y1 y2
    · rcases em e2 with ⟨y1, _, b2, hb2⟩ | ⟨y1, y2⟩
      · exact newp hb2 z1 z2
      · exact r.phD j k a v w hjk z2 y2
  · rcases em e with ⟨z1, z2, b, hb⟩ | ⟨z1, z2⟩
    · rw [z1, set_get hg, if_pos rfl]
      rcases (ho.2 a b hb).2.2 with z | z
      · obtain ⟨o, e2⟩ := mine a z
        obtain ⟨s', m', e1, e2, e3⟩ := r.phO i _ _ e2
        rw [hg] at e1
        cases e1
        exact ⟨_, m', rfl, e2, e3⟩
      · exact ⟨_, m, rfl, rfl, .inr (r.fresh0 z)⟩
    · rw [List.getElem?_set_ne (fun z => z1 z.symm)]
      exact r.phO j a v z2
  · obtain ⟨f1, f2, f3, f4⟩ := r.frm q v hq
    have nq : q ∉ mu := fun z => by obtain ⟨o, e⟩ := mine q z; rw [f4 i] at e; cases e
    refine ⟨hk q v f1 nq, hS q v f1 f2, f3, fun j => ?_⟩
    show (if j = i then partB L' H' else φ j) q = none
    by_cases hj : j = i
    · rw [if_pos hj]
      cases e : partB L' H' q with
      | none => rfl
      | some o =>
        obtain ⟨_, b, hb⟩ := partB_some e
        rcases (ho.2 q b hb).2.2 with z | z
        · exact (nq z).elim
        · rw [f1] at z; cases z
    · rw [if_neg hj]; exact f4 j
end
end DL
set_option Elab.async false
set_option linter.all false
set_option autoImplicit false
set_option maxRecDepth 100000
set_option maxHeartbeats 4000000
/-! DL27: boxes: reading, changing, promises of defs that change boxes. -/
namespace DL
open PySem PySem.Spec PyProof.Rows L2
section
variable {X : Xb} {B : Bs} {S S' F H H' : Hp} {σ : L2.St} {γ : List Sl} {p : Addr} {o : HO} {i : Nat} {m : Bool} {L L' : Bxs} {b b0 : Bx}
theorem Rel.boxAt (R : Rel X B S H σ γ) (hg : γ[i]? = some (.hp m L)) (hL : L p = some b) : S p = none ∧ BxOk S (H p) (some b) := R.sl i _ hg p b hL
theorem Rel.addB (R : Rel X (B.fram p o) S H σ γ) (hg : γ[i]? = some (.hp m L)) (hb : BxOk S (some o) (some b)) : Rel X B S H σ (γ.set i (.hp m (updB L p b))) ∧ L p = none :=
  ⟨⟨(R.r.addB hg hb).1, R.x⟩, (R.r.addB hg hb).2⟩
theorem Rel.callB (R : Rel X B S H σ γ) (hg : γ[i]? = some (.hp m L)) {mu : List Addr} {SP : Hp} (hmu : ∀ a, a ∈ mu → L a ≠ none) (C : Rel0 X.K ⟨H, S, mu, [], SP⟩ S' H' [] []) (ho : BxsOut S' H' L' mu H) : Rel X B S' H' σ (γ.set i (.hp m L')) :=
  ⟨R.r.callB hg hmu C ho, R.x.mono C.grow⟩
end
section
variable {X : Xb} {K : PySem.W.Frag} {a b c e o : Expr} {es : List Expr} {ta tb tc te to : TE} {wa wb wc we wo : WE} {t : TA} {w : WA} {pos p p1 p2 : Pos} {f : Str}
/-- x.f, x an instance in a box -/
def dFldB (K : PySem.W.Frag) (h : Nat) (f : Str) (wa : WE) : WE := fun γ Q => wa γ fun x γ1 => ∃ m L q C fs d, x = .ref q ∧ γ1[h]? = some (.hp m L) ∧ L q = some (.ins C fs) ∧ (Cls K C ∧ NoAttr K C f) ∧ fs.lookup f = some d ∧ Q d γ1
/-- x.f = e, x an instance in a box -/
def dPutB (K : PySem.W.Frag) (h : Nat) (f : Str) (wo we : WE) : WS := fun Dd γ => we γ fun d γ1 => wo γ1 fun x γ2 => ∃ m L q C fs, x = .ref q ∧ γ2[h]? = some (.hp m L) ∧ L q = some (.ins C fs) ∧ (Cls K C ∧ NoAttr K C f) ∧ fs.length < 1000 ∧ Dd.nx (γ2.set h (.hp m (updB L q (.ins C (putD f d fs)))))
/-- o.append(e), o a list in a box -/
def dAppB (h : Nat) (wo we : WE) : WS := fun Dd γ => wo γ fun x γ1 => (∃ m L q ds, x = .ref q ∧ γ1[h]? = some (.hp m L) ∧ L q = some (.lst ds)) ∧ we γ1 fun d γ2 => ∃ m L q ds, x = .ref q ∧ γ2[h]? = some (.hp m L) ∧ L q = some (.lst ds) ∧ ds.length < sizeLine ∧ Dd.nx (γ2.set h (.hp m (updB L q (.lst (ds ++ [d])))))
/-- o.pop(), o a list in a box -/
def dPopB (h : Nat) (wo : WE) : WE := fun γ Q => wo γ fun x γ1 => ∃ m L q ds d, x = .ref q ∧ γ1[h]? = some (.hp m L) ∧ L q = some (.lst (ds ++ [d])) ∧ Q d (γ1.set h (.hp m (updB L q (.lst ds))))
end
end DL
set_option Elab.async false
set_option linter.all false
set_option autoImplicit false
set_option maxRecDepth 100000
set_option maxHeartbeats 4000000
/-! DL28: boxes: len, items, new ones, freezing; promises of defs that change boxes; their calls. -/
namespace DL
open PySem PySem.Spec PyProof.Rows L2
theorem Den.ref_inv {S : Hp} {v : V} {q : Addr} (h : Den S v (.ref q)) : v = .ref q := by
  cases h with
  | ref p => rfl
section
variable {X : Xb} {K : PySem.W.Frag} {a b c e o : Expr} {es : List Expr} {ta tb tc te to : TE} {wa wb wc we wo : WE} {t : TA} {w : WA} {pos p p1 p2 px : Pos} {f x : Str}
/-- len(o), o a list in a box -/
def dLenB (h : Nat) (w : WA) : WE := fun γ Q => w γ fun ds γ1 => ∃ m L q es, ds = [.ref q] ∧ γ1[h]? = some (.hp m L) ∧ L q = some (.lst es) ∧ Q (.int es.length) γ1
/-- o[e], o a list in a box -/
def dIxB (h : Nat) (wa wb : WE) : WE := fun γ Q => wa γ fun x γ1 => wb γ1 fun y γ2 => ∃ m L q es k d, x = .ref q ∧ y = .int k ∧ γ2[h]? = some (.hp m L) ∧ L q = some (.lst es) ∧ atI es k = some d ∧ Q d γ2
/-- a new list, put into a box -/
def dNewB (h : Nat) (wf : WF) : WE := fun γ Q => wf γ fun ds γ1 => ∃ m L, γ1[h]? = some (.hp m L) ∧ ∀ p, L p = none → Q (.ref p) (γ1.set h (.hp m (updB L p (.lst ds))))
/-- a list in a box, from here on a value; no box of a caller is in sight -/
def dFrzB (h : Nat) (wa : WE) : WE := fun γ Q => wa γ fun x γ1 => ∃ L q es, x = .ref q ∧ γ1[h]? = some (.hp false L) ∧ L q = some (.lst es) ∧ Q (.lst es) (γ1.set h (.hp false (delB L q)))
end
/-! ### promises -/
structure SpecB where
  S : List D → Bxs → (D → Bxs → Prop) → Prop
  mono : ∀ ds L P P', (∀ d L', P d L' → P' d L') → S ds L P → S ds L P'
def spB (K : PySem.W.Frag) (s : SpecB) : Sp := fun vs H Q _ => ∃ S mu L ds, Same S H ∧ (∀ a, a ∈ mu ↔ L a ≠ none) ∧ (∀ p b, L p = some b → S p = none ∧ BxOk S (H p) (some b)) ∧ DenL S vs ds ∧
  s.S ds L fun d L' => ∀ v S' H', Rel0 K ⟨H, S, mu, [], emptyH⟩ S' H' [] [] → BxsOut S' H' L' mu H → Den S' v d → Q v H'
theorem keysB {L : Bxs} (h : ∃ ks : List Addr, ∀ p, L p ≠ none → p ∈ ks) : ∃ mu : List Addr, ∀ a, a ∈ mu ↔ L a ≠ none := by
  obtain ⟨ks, hk⟩ := h
  refine ⟨ks.filter fun a => (L a).isSome, fun a => ?_⟩
  rw [List.mem_filter]
  constructor
  · intro h z
    rw [z] at h
    exact absurd h.2 (by decide)
  · intro h
    refine ⟨hk a h, ?_⟩
    cases e : L a with
    | none => exact (h e).elim
    | some b => rfl
theorem Rel.finB {X : Xb} {B : Bs} {S H : Hp} {σ : L2.St} {γ : List Sl} {i : Nat} {m : Bool} {L : Bxs} (R : Rel X B S H σ γ) (hg : γ[i]? = some (.hp m L)) : ∃ ks : List Addr, ∀ p, L p ≠ none → p ∈ ks := by
  obtain ⟨φ, r⟩ := R.r
  have q : BxsOk S (φ i) L := r.sl i _ hg
  exact q.1
section
variable {X : Xb} {K : PySem.W.Frag} {C f : Addr} {fd : FuncData} {ps : List Str} {k : Nat} {x m : Str} {e o : Expr} {es : List Expr} {t : TA} {w : WA} {ta : TE} {wa : WE} {p pos apos : Pos} {s : SpecB} {pl : Sem Bool}
def dCallBx (h : Nat) (s : SpecB) (w : WA) : WE := fun γ Q => w γ fun ds γ1 => ∃ m L, γ1[h]? = some (.hp m L) ∧ s.S ds L fun d L' => Q d (γ1.set h (.hp m L'))
theorem run_spB {B : Bs} {S H : Hp} {σ : L2.St} {γ : List Sl} {h : Nat} {m : Bool} {L : Bxs} {vs : List V} {ds : List D} {Q : VK} (R : Rel X B S H σ γ) (g : γ[h]? = some (.hp m L)) (hd : DenL S vs ds)
    (q : s.S ds L fun d L' => ∀ v S' H', Rel X B S' H' σ (γ.set h (.hp m L')) → Same S S' → Den S' v d → Q v H') : spB X.K s vs H Q E0 := by
  obtain ⟨mu, hmu⟩ := keysB (R.finB g)
  refine ⟨S, mu, L, ds, R.same, hmu, fun p b hb => R.boxAt g hb, hd, s.mono _ _ _ _ (fun d L' q v S' H' C' ho dn => ?_) q⟩
  exact q v S' H' (R.callB g (fun a ha => (hmu a).mp ha) C' ho) C'.grow dn
theorem se_callBx {h : Nat} (ha : SA X t w) : SE X (tCall (spB X.K s) [] E0 t) (dCallBx h s w) := by
  refine ⟨fun γ P P' k q => ha.mono γ _ _ (fun ds γ1 ⟨m, L, g, q⟩ => ⟨m, L, g, s.mono _ _ _ _ (fun d L' q => k _ _ q) q⟩) q, fun B S H σ γ Q R q => ?_⟩
  refine ha.run B S H σ γ _ R (ha.mono γ _ _ (fun ds γ1 ⟨m, L, g, q⟩ vs S1 H1 R1 e1 d1 => ?_) q)
  rw [List.append_nil]
  exact run_spB R1 g d1 (s.mono _ _ _ _ (fun d L' q v S' H' R' e' dn => q v S' H' R' (e1.trans e') dn) q)
/-- a call of a def that may change boxes -/
theorem de_callBx (K' : PySem.W.Frag) (h : Nat) (F : FnOk X.prog X.w X.K X.mg X.base CX0 k f fd ps (spB K' s)) (hr : Room k X.A) (hm : X.mg x = some (.ref f)) (hk : PySem.W.keepIn X.K (.ref f) = true) (hb : Binds X.K fd ps []) (ha : DA X (e :: es) t w) (hg : Gl X x := by rfl)
    (hdb : (x == ("__debug__" : Str)) = false := by decide) (he : starEach (e :: es) X.env = (false, eval e X.env) :: starEach es X.env := by rfl) (hpl : (backTo pos (starEach es X.env)).any (·.1) = false := by rfl) (hK : X.K = K' := by rfl) : DE X (.Call (.Name x p) (e :: es) [] pos) (tCall (spB K' s) [] E0 t) (dCallBx h s w) := by
  subst hK
  exact ⟨pe_call F hr hg hm hk hb .nil pass0 ha.pa hdb he hpl, se_callBx ha.sa⟩
/-- a method of an instance in a box -/
def dMethB (h : Nat) (C : Addr) (m : Str) (s : SpecB) (wa : WE) (w : WA) : WE := fun γ Q => wa γ fun x γ1 => ∃ mm L q fs, x = .ref q ∧ γ1[h]? = some (.hp mm L) ∧ L q = some (.ins C fs) ∧ fs.lookup m = none ∧ w γ1 fun ds γ2 => ∃ mm L, γ2[h]? = some (.hp mm L) ∧ s.S (.ref q :: ds) L fun d L' => Q d (γ2.set h (.hp mm L'))
/-- a new instance, put into a box -/
def dMakeB (h : Nat) (C : Addr) (s : SpecB) (w : WA) : WE := fun γ Q => w γ fun ds γ1 => ∃ m L, γ1[h]? = some (.hp m L) ∧ ∀ p, L p = none → s.S (.ref p :: ds) (updB L p (.ins C [])) fun d L' => d = .non ∧ Q (.ref p) (γ1.set h (.hp m L'))
end
/-- the slots of a def that may change boxes: at the end of the names stands a name that no code has -/
def gamB (N : List Str) (ds : List D) (L : Bxs) : List Sl := (gam N ds).set (N.length - 1) (.hp true L)
section
variable {P : Program} {w : World} {K : PySem.W.Frag} {mg : Str → Option Value} {base : Heap} {x qual : Str} {st : Stmt} {f : Addr} {fd : FuncData} {N ps : List Str} {k : Nat}
theorem start_relB {H S : Hp} {vs : List V} {ds : List D} {mu : List Addr} {L : Bxs} (e : Same S H) (hmu : ∀ a, a ∈ mu ↔ L a ≠ none) (hL : ∀ p b, L p = some b → S p = none ∧ BxOk S (H p) (some b)) (hd : DenL S vs ds) (hl : ds.length < N.length) : Rel0 K ⟨H, S, mu, [], emptyH⟩ S H (L2.start N vs) (gamB N ds L) := by
  obtain ⟨φ, r⟩ := start_rel (K := K) (N := N) e hd
  have hlen : N.length - 1 < (gam N ds).length := by unfold gam; rw [List.length_append, List.length_map, List.length_replicate]; omega
  have sp : ∀ {i s F}, (gam N ds)[i]? = some s → SlF K ⟨H, S, mu, [], emptyH⟩ S F (L2.start N vs)[i]? s := fun {i s F} h => by
    have hm := gam_may h
    have q := r.sl i s h
    cases s with
    | any => trivial
    | val d => exact q
    | scr ns => exact q
    | own m ds => cases hm
    | ins m C fs => cases hm
    | hp m L => cases hm
  have there : ∀ {a}, a ∈ mu → ∃ o, H a = some o := fun {a} ha => by
    cases hb : L a with
    | none => exact ((hmu a).mp ha hb).elim
    | some b =>
      have := (hL a b hb).2
      cases hH : H a with
      | none => rw [hH] at this; exact this.elim
      | some o => exact ⟨o, rfl⟩
  have em : ∀ {j a v}, (if j = N.length - 1 then partB L H else emptyH) a = some v → j = N.length - 1 ∧ H a = some v ∧ ∃ b, L a = some b := fun {j a v} e => by
    by_cases hj : j = N.length - 1
    · rw [if_pos hj] at e; exact ⟨hj, partB_some e⟩
    · rw [if_neg hj] at e; cases e
  refine ⟨fun j => if j = N.length - 1 then partB L H else emptyH, e, fun a o h _ => h, fun a ha => ?_, Same.refl S, fun a o h => .inl h, by unfold gamB; rw [List.length_set]; exact r.len, fun i s h => ?_, fun i a o e => (em e).2.1, fun i a o e => let ⟨_, _, b, hb⟩ := em e; (hL a b hb).1, fun i j a o u hij e1 e2 => hij ((em e1).1.trans (em e2).1.symm), fun i a o e => ?_, fun p o hp => (by cases hp), List.nodup_nil, fun a o e => (by cases e)⟩
  · obtain ⟨o, ho⟩ := there ha
    refine ⟨?_, ⟨o, ho⟩, o, ho⟩
    cases hb : L a with
    | none => exact ((hmu a).mp ha hb).elim
    | some b => exact (hL a b hb).1
  · unfold gamB at h
    by_cases hi : i = N.length - 1
    · subst hi
      rw [List.getElem?_set_self hlen] at h
      cases h
      show SlF K _ S (if N.length - 1 = N.length - 1 then partB L H else emptyH) _ _
      rw [if_pos rfl]
      exact partB_ok ⟨mu, fun p hp => (hmu p).mpr hp⟩ fun p b e => (hL p b e).2
    · rw [List.getElem?_set_ne (fun z => hi z.symm)] at h
      exact sp h
  · obtain ⟨z, _, b, hb⟩ := em e
    subst z
    unfold gamB
    rw [List.getElem?_set_self hlen]
    exact ⟨_, true, rfl, rfl, .inl ⟨rfl, (hmu a).mpr (by rw [hb]; exact fun z => by cases z)⟩⟩
theorem endB {H S S' H' : Hp} {σ : L2.St} {γ : List Sl} {mu : List Addr} {L' : Bxs} {i : Nat} {X : Xb} (R : Rel X ⟨H, S, mu, [], emptyH⟩ S' H' σ γ) (g : γ[i]? = some (.hp true L')) : BxsOut S' H' L' mu H := by
  refine ⟨R.finB g, fun p b hb => ?_⟩
  obtain ⟨h1, h2⟩ := R.boxAt g hb
  refine ⟨h1, h2, ?_⟩
  obtain ⟨φ, r⟩ := R.r
  have q : BxsOk S' (φ i) L' := r.sl i _ g
  obtain ⟨o, e, _⟩ := q.at_ hb
  obtain ⟨s', m, e1, e2, e3⟩ := r.phO i _ _ e
  rw [g] at e1
  cases e1
  exact e3.imp (fun z => z.2) id
/-- THE RULE for a def that may change boxes -/
theorem fn_okB {s : SpecB} (F : Fun K x qual st f fd) (Sc : FnScope N ps (defScope st)) (hN : ps.length < N.length) (len : ∀ ds L Q, s.S ds L Q → ds.length = ps.length)
    (hbody : ∀ (cdv : Value) (A : Around) (outer : List Env) (s0 : Shared) (H : Hp) (E : XK), Room k (A.deeper (envOfC qual (defScope st) s0.heap.objs.size f cdv)) →
      ∃ t w', DSs (Xb.of (cxOf CX0 P w K mg base N qual (defScope st) f cdv A outer s0 H E).nox) (defBody st) t w' ∧ ∀ ds L Q, s.S ds L Q → w' { nx := fun γ => ∃ L', γ[N.length - 1]? = some (.hp true L') ∧ Q .non L', rt := fun r γ => ∃ d L', r = .d d ∧ γ[N.length - 1]? = some (.hp true L') ∧ Q d L' } (gamB N ds L)) : FnOk P w K mg base CX0 (k + 1) f fd ps (spB K s) := by
  refine F.ok Sc (fun vs H Q E h => ?_) (fun cdv A outer s0 H vs Q E hr h => ?_)
  · obtain ⟨S, mu, L, ds, e, hmu, hL, hd, q⟩ := h
    rw [hd.1]
    exact len _ _ _ q
  · obtain ⟨S, mu, L, ds, e, hmu, hL, hd, q⟩ := h
    obtain ⟨t, w', h1, h2⟩ := hbody cdv A outer s0 H E hr
    refine ⟨t, h1.ps, ?_⟩
    have hl : ds.length < N.length := by rw [len _ _ _ q]; exact hN
    exact h1.ss.run ⟨H, S, mu, [], emptyH⟩ S S H (L2.start N vs) (gamB N ds L) { nx := fun γ => ∃ L', γ[N.length - 1]? = some (.hp true L') ∧ _, rt := fun r γ => ∃ d L', r = .d d ∧ γ[N.length - 1]? = some (.hp true L') ∧ _ } _ (Rel0.of (start_relB e hmu hL hd hl)) (Same.refl S) ⟨fun S' H' σ' γ' _ R ⟨L', g, q⟩ => q _ _ _ R.nil (endB R g) .non, fun S' H' σ' γ' v r _ R rv ⟨d, L', er, g, q⟩ => by
        subst er
        exact q v _ _ R.nil (endB R g) rv, fun S' H' σ' γ' _ R q => q.elim, fun S' H' σ' γ' _ R q => q.elim⟩ (h2 ds L _ q)
end
end DL
set_option Elab.async false
set_option linter.all false
set_option autoImplicit false
set_option maxRecDepth 100000
set_option maxHeartbeats 4000000
/-! DL29: boxes: their beginning in a def; += of attributes; items set; steps. -/
namespace DL
open PySem PySem.Spec PyProof.Rows L2
section
variable {K : PySem.W.Frag} {B : Bs} {S S' F H H' : Hp} {σ : L2.St} {γ : List Sl} {φ : Nat → Hp} {i : Nat}
/-- no boxes as yet -/
theorem Rel0.initB (R : Rel0 K B S H σ γ) : Rel0 K B S H σ (γ.set i (.hp false (fun _ => none))) := by
  obtain ⟨φ, r⟩ := R
  have em : ∀ {j a u}, (if j = i then emptyH else φ j) a = some u → j ≠ i ∧ φ j a = some u := fun {j a u} e => by
    by_cases hj : j = i
    · rw [if_pos hj] at e; cases e
    · rw [if_neg hj] at e; exact ⟨hj, e⟩
  refine ⟨fun j => if j = i then emptyH else φ j, r.same, r.keep, r.muk, r.grow, r.ext, by rw [List.length_set]; exact r.len, fun j t e => ?_, fun j a u e => r.phH j a u (em e).2, fun j a u e => r.phS j a u (em e).2, fun j k a u v hjk e1 e2 => r.phD j k a u v hjk (em e1).2 (em e2).2, fun j a u e => ?_, fun q u hq => ?_, r.frn, r.spS⟩
  · by_cases hj : j = i
    · subst hj
      by_cases hl : j < γ.length
      · rw [List.getElem?_set_self hl] at e
        cases e
        show SlF K B S (if j = j then emptyH else φ j) _ _
        rw [if_pos rfl]
        exact ⟨⟨[], fun p hp => (hp rfl).elim⟩, fun p => trivial⟩
      · rw [List.getElem?_eq_none (by rw [List.length_set]; omega)] at e
        cases e
    · rw [List.getElem?_set_ne (fun z => hj z.symm)] at e
      show SlF K B S (if j = i then emptyH else φ j) _ _
      rw [if_neg hj]
      exact r.sl j t e
  · obtain ⟨h1, h2⟩ := em e
    rw [List.getElem?_set_ne (fun z => h1 z.symm)]
    exact r.phO j a u h2
  · obtain ⟨k1, k2, k3, k4⟩ := r.frm q u hq
    refine ⟨k1, k2, k3, fun j => ?_⟩
    show (if j = i then emptyH else φ j) q = none
    by_cases hj : j = i
    · rw [if_pos hj]; rfl
    · rw [if_neg hj]; exact k4 j
end
/-- ahead of a def's code: no boxes as yet -/
def dInitB (i : Nat) (w : WS) : WS := fun Dd γ => w Dd (γ.set i (.hp false (fun _ => none)))
theorem i_initB {i : Nat} {γ : List Sl} {w : WS} {Dd : EndsD} (q : w Dd (γ.set i (.hp false (fun _ => none)))) : dInitB i w Dd γ := q
section
variable {X : Xb} {K : PySem.W.Frag} {a b c e o : Expr} {es : List Expr} {ta tb tc te to tk : TE} {wa wb wc we wo wk : WE} {t : TA} {w : WA} {pos p p1 p2 px tpos : Pos} {f x : Str}
/-- o.f += e of ints, o an instance in a box -/
def dAugB (K : PySem.W.Frag) (h : Nat) (f : Str) (wo we : WE) : WS := fun Dd γ => wo γ fun x γ1 => (∃ m L q C fs i, x = .ref q ∧ γ1[h]? = some (.hp m L) ∧ L q = some (.ins C fs) ∧ (Cls K C ∧ NoAttr K C f) ∧ fs.lookup f = some (.int i) ∧
  we γ1 fun d γ2 => ∃ j m L fs, d = .int j ∧ γ2[h]? = some (.hp m L) ∧ L q = some (.ins C fs) ∧ fs.length < 1000 ∧ Dd.nx (γ2.set h (.hp m (updB L q (.ins C (putD f (.int (i + j)) fs))))))
end
end DL
set_option Elab.async false
set_option linter.all false
set_option autoImplicit false
set_option maxRecDepth 100000
set_option maxHeartbeats 4000000
/-! DL30: steps for boxes. -/
namespace DL
open PySem PySem.Spec PyProof.Rows L2
section
variable {K : PySem.W.Frag} {γ : List Sl} {h : Nat} {m mm : Bool} {L : Bxs} {q : Addr} {C : Addr} {fs : List (Str × D)} {f : Str} {d : D} {ds es : List D} {b b' : Bx} {p : Addr}
variable {wa wb we wo : WE} {w : WA} {wf : WF} {Q : D → List Sl → Prop} {Dd : EndsD} {s : SpecB} {nm : Str}
theorem i_fldB (k : wa γ fun x γ1 => ∃ m L q C fs d, x = .ref q ∧ γ1[h]? = some (.hp m L) ∧ L q = some (.ins C fs) ∧ (Cls K C ∧ NoAttr K C f) ∧ fs.lookup f = some d ∧ Q d γ1) : dFldB K h f wa γ Q := k
instance : Go (dFldB K h f wa γ Q) (wa γ fun x γ1 => ∃ m L q C fs d, x = .ref q ∧ γ1[h]? = some (.hp m L) ∧ L q = some (.ins C fs) ∧ (Cls K C ∧ NoAttr K C f) ∧ fs.lookup f = some d ∧ Q d γ1) := ⟨fun z => i_fldB z⟩
theorem i_putB (k : we γ fun d γ1 => wo γ1 fun x γ2 => ∃ m L q C fs, x = .ref q ∧ γ2[h]? = some (.hp m L) ∧ L q = some (.ins C fs) ∧ (Cls K C ∧ NoAttr K C f) ∧ fs.length < 1000 ∧ Dd.nx (γ2.set h (.hp m (updB L q (.ins C (putD f d fs)))))) : dPutB K h f wo we Dd γ := k
instance : Go (dPutB K h f wo we Dd γ) (we γ fun d γ1 => wo γ1 fun x γ2 => ∃ m L q C fs, x = .ref q ∧ γ2[h]? = some (.hp m L) ∧ L q = some (.ins C fs) ∧ (Cls K C ∧ NoAttr K C f) ∧ fs.length < 1000 ∧ Dd.nx (γ2.set h (.hp m (updB L q (.ins C (putD f d fs)))))) := ⟨fun z => i_putB z⟩
theorem i_augB (k : wo γ fun x γ1 => (∃ m L q C fs i, x = .ref q ∧ γ1[h]? = some (.hp m L) ∧ L q = some (.ins C fs) ∧ (Cls K C ∧ NoAttr K C f) ∧ fs.lookup f = some (.int i) ∧
  we γ1 fun d γ2 => ∃ j m L fs, d = .int j ∧ γ2[h]? = some (.hp m L) ∧ L q = some (.ins C fs) ∧ fs.length < 1000 ∧ Dd.nx (γ2.set h (.hp m (updB L q (.ins C (putD f (.int (i + j)) fs)))))) ) : dAugB K h f wo we Dd γ := k
instance : Go (dAugB K h f wo we Dd γ) (wo γ fun x γ1 => (∃ m L q C fs i, x = .ref q ∧ γ1[h]? = some (.hp m L) ∧ L q = some (.ins C fs) ∧ (Cls K C ∧ NoAttr K C f) ∧ fs.lookup f = some (.int i) ∧
  we γ1 fun d γ2 => ∃ j m L fs, d = .int j ∧ γ2[h]? = some (.hp m L) ∧ L q = some (.ins C fs) ∧ fs.length < 1000 ∧ Dd.nx (γ2.set h (.hp m (updB L q (.ins C (putD f (.int (i + j)) fs))))))) := ⟨fun z => i_augB z⟩
theorem i_appB (k : wo γ fun x γ1 => (∃ m L q ds, x = .ref q ∧ γ1[h]? = some (.hp m L) ∧ L q = some (.lst ds)) ∧ we γ1 fun d γ2 => ∃ m L q ds, x = .ref q ∧ γ2[h]? = some (.hp m L) ∧ L q = some (.lst ds) ∧ ds.length < sizeLine ∧ Dd.nx (γ2.set h (.hp m (updB L q (.lst (ds ++ [d])))))) : dAppB h wo we Dd γ := k
instance : Go (dAppB h wo we Dd γ) (wo γ fun x γ1 => (∃ m L q ds, x = .ref q ∧ γ1[h]? = some (.hp m L) ∧ L q = some (.lst ds)) ∧ we γ1 fun d γ2 => ∃ m L q ds, x = .ref q ∧ γ2[h]? = some (.hp m L) ∧ L q = some (.lst ds) ∧ ds.length < sizeLine ∧ Dd.nx (γ2.set h (.hp m (updB L q (.lst (ds ++ [d])))))) := ⟨fun z => i_appB z⟩
theorem i_popB (k : wo γ fun x γ1 => ∃ m L q ds d, x = .ref q ∧ γ1[h]? = some (.hp m L) ∧ L q = some (.lst (ds ++ [d])) ∧ Q d (γ1.set h (.hp m (updB L q (.lst ds))))) : dPopB h wo γ Q := k
instance : Go (dPopB h wo γ Q) (wo γ fun x γ1 => ∃ m L q ds d, x = .ref q ∧ γ1[h]? = some (.hp m L) ∧ L q = some (.lst (ds ++ [d])) ∧ Q d (γ1.set h (.hp m (updB L q (.lst ds))))) := ⟨fun z => i_popB z⟩
theorem i_lenB (k : w γ fun ds γ1 => ∃ m L q es, ds = [.ref q] ∧ γ1[h]? = some (.hp m L) ∧ L q = some (.lst es) ∧ Q (.int es.length) γ1) : dLenB h w γ Q := k
instance : Go (dLenB h w γ Q) (w γ fun ds γ1 => ∃ m L q es, ds = [.ref q] ∧ γ1[h]? = some (.hp m L) ∧ L q = some (.lst es) ∧ Q (.int es.length) γ1) := ⟨fun z => i_lenB z⟩
theorem i_ixB (k : wa γ fun x γ1 => wb γ1 fun y γ2 => ∃ m L q es k d, x = .ref q ∧ y = .int k ∧ γ2[h]? = some (.hp m L) ∧ L q = some (.lst es) ∧ atI es k = some d ∧ Q d γ2) : dIxB h wa wb γ Q := k
instance : Go (dIxB h wa wb γ Q) (wa γ fun x γ1 => wb γ1 fun y γ2 => ∃ m L q es k d, x = .ref q ∧ y = .int k ∧ γ2[h]? = some (.hp m L) ∧ L q = some (.lst es) ∧ atI es k = some d ∧ Q d γ2) := ⟨fun z => i_ixB z⟩
theorem i_newB (k : wf γ fun ds γ1 => ∃ m L, γ1[h]? = some (.hp m L) ∧ ∀ p, L p = none → Q (.ref p) (γ1.set h (.hp m (updB L p (.lst ds))))) : dNewB h wf γ Q := k
instance : Go (dNewB h wf γ Q) (wf γ fun ds γ1 => ∃ m L, γ1[h]? = some (.hp m L) ∧ ∀ p, L p = none → Q (.ref p) (γ1.set h (.hp m (updB L p (.lst ds))))) := ⟨fun z => i_newB z⟩
theorem i_frzB (k : wa γ fun x γ1 => ∃ L q es, x = .ref q ∧ γ1[h]? = some (.hp false L) ∧ L q = some (.lst es) ∧ Q (.lst es) (γ1.set h (.hp false (delB L q)))) : dFrzB h wa γ Q := k
instance : Go (dFrzB h wa γ Q) (wa γ fun x γ1 => ∃ L q es, x = .ref q ∧ γ1[h]? = some (.hp false L) ∧ L q = some (.lst es) ∧ Q (.lst es) (γ1.set h (.hp false (delB L q)))) := ⟨fun z => i_frzB z⟩
theorem i_callBx (k : w γ fun ds γ1 => ∃ m L, γ1[h]? = some (.hp m L) ∧ s.S ds L fun d L' => Q d (γ1.set h (.hp m L'))) : dCallBx h s w γ Q := k
instance : Go (dCallBx h s w γ Q) (w γ fun ds γ1 => ∃ m L, γ1[h]? = some (.hp m L) ∧ s.S ds L fun d L' => Q d (γ1.set h (.hp m L'))) := ⟨fun z => i_callBx z⟩
theorem i_methB (k : wa γ fun x γ1 => ∃ mm L q fs, x = .ref q ∧ γ1[h]? = some (.hp mm L) ∧ L q = some (.ins C fs) ∧ fs.lookup nm = none ∧ w γ1 fun ds γ2 => ∃ mm L, γ2[h]? = some (.hp mm L) ∧ s.S (.ref q :: ds) L fun d L' => Q d (γ2.set h (.hp mm L'))) : dMethB h C nm s wa w γ Q := k
instance : Go (dMethB h C nm s wa w γ Q) (wa γ fun x γ1 => ∃ mm L q fs, x = .ref q ∧ γ1[h]? = some (.hp mm L) ∧ L q = some (.ins C fs) ∧ fs.lookup nm = none ∧ w γ1 fun ds γ2 => ∃ mm L, γ2[h]? = some (.hp mm L) ∧ s.S (.ref q :: ds) L fun d L' => Q d (γ2.set h (.hp mm L'))) := ⟨fun z => i_methB z⟩
theorem i_makeB (k : w γ fun ds γ1 => ∃ m L, γ1[h]? = some (.hp m L) ∧ ∀ p, L p = none → s.S (.ref p :: ds) (updB L p (.ins C [])) fun d L' => d = .non ∧ Q (.ref p) (γ1.set h (.hp m L'))) : dMakeB h C s w γ Q := k
instance : Go (dMakeB h C s w γ Q) (w γ fun ds γ1 => ∃ m L, γ1[h]? = some (.hp m L) ∧ ∀ p, L p = none → s.S (.ref p :: ds) (updB L p (.ins C [])) fun d L' => d = .non ∧ Q (.ref p) (γ1.set h (.hp m L'))) := ⟨fun z => i_makeB z⟩
end
/-- a functional promise about boxes: I says what the boxes are, post what is answered, J what they are behind -/
def SpecB.fn {α : Type} (args : α → List D) (pre : α → Bxs → Prop) (post : α → D → Bxs → Bxs → Prop) : SpecB := ⟨fun ds L Q => ∃ a, ds = args a ∧ pre a L ∧ ∀ d L', post a d L L' → Q d L', fun ds L P P' k ⟨a, e, h, q⟩ => ⟨a, e, h, fun d L' z => k _ _ (q d L' z)⟩⟩
end DL
set_option Elab.async false
set_option linter.all false
set_option autoImplicit false
set_option maxRecDepth 100000
set_option maxHeartbeats 4000000
/-! DL31: items of boxes set. -/
namespace DL
open PySem PySem.Spec PyProof.Rows L2
section
variable {X : Xb} {K : PySem.W.Frag} {a b c e o : Expr} {es : List Expr} {ta tb tc te to tk : TE} {wa wb wc we wo wk : WE} {t : TA} {w : WA} {pos p p1 p2 px tpos : Pos} {f x : Str}
/-- o[k] = e, o a list in a box -/
def dStB (h : Nat) (we wo wk : WE) : WS := fun Dd γ => we γ fun d γ1 => wo γ1 fun x γ2 => wk γ2 fun y γ3 => ∃ m L q ds n j, x = .ref q ∧ y = .int n ∧ γ3[h]? = some (.hp m L) ∧ L q = some (.lst ds) ∧ ixN ds.length n = some j ∧ Dd.nx (γ3.set h (.hp m (updB L q (.lst (ds.set j d)))))
end
section
variable {γ : List Sl} {h : Nat} {m : Bool} {L : Bxs} {q : Addr} {es : List D} {Dd : EndsD} {we wo wk : WE}
theorem i_stB (k : we γ fun d γ1 => wo γ1 fun x γ2 => wk γ2 fun y γ3 => ∃ m L q ds n j, x = .ref q ∧ y = .int n ∧ γ3[h]? = some (.hp m L) ∧ L q = some (.lst ds) ∧ ixN ds.length n = some j ∧ Dd.nx (γ3.set h (.hp m (updB L q (.lst (ds.set j d)))))) : dStB h we wo wk Dd γ := k
instance : Go (dStB h we wo wk Dd γ) (we γ fun d γ1 => wo γ1 fun x γ2 => wk γ2 fun y γ3 => ∃ m L q ds n j, x = .ref q ∧ y = .int n ∧ γ3[h]? = some (.hp m L) ∧ L q = some (.lst ds) ∧ ixN ds.length n = some j ∧ Dd.nx (γ3.set h (.hp m (updB L q (.lst (ds.set j d)))))) := ⟨fun z => i_stB z⟩
end
end DL
namespace DL
open PySem PySem.Spec PyProof.Rows L2
end DL
set_option Elab.async false
set_option linter.all false
set_option autoImplicit false
set_option maxRecDepth 100000
set_option maxHeartbeats 4000000
/-! DL32: calls counted one by one (for defs that call one another deep). -/
namespace DL
open PySem PySem.Spec PyProof.Rows L2
/-- room for j calls, one in the other -/
structure RoomR (j : Nat) (A : Around) : Prop where
  h : A.handled = none
  d : A.depth + j + 5 < recursionLimit
  u : A.units + 3 * j + 400 < cLine
theorem RoomR.room {j k : Nat} {A : Around} (r : RoomR j A) (h : 3 * k ≤ j) (hk : k ≤ 12) : Room k A := ⟨r.h, by have := r.d; omega, by have := r.u; omega⟩
theorem RoomR.of {j k : Nat} {A : Around} (r : Room k A) (h : j ≤ 3 * k) (hk : 3 * j + 200 ≤ 16 * k) : RoomR j A := ⟨r.hd, by have := r.dp; omega, by have := r.un; omega⟩
/-- a def keeps its promise where there is room for j calls -/
structure FnR (P : Program) (w : World) (K : PySem.W.Frag) (mg : Str → Option Value) (base : Heap) (j : Nat) (f : Addr) (fd : FuncData) (ps : List Str) (sp : Sp) : Prop where
  n : ∀ vs H Q E, sp vs H Q E → vs.length = ps.length
  go : ∀ {A : Around} {outer : List Env} {s : Shared} {H : Hp} {args : Args} {us : List Value} {vs : List V} {Q : VK} {E : XK}, RoomR j A → Env0 P w K mg base A outer s H → BindsTo s fd args (ps.zip us) → Vals vs us → sp vs H Q E → codeAny (model P w) A (.call (.ref f) args) (CR CX0 outer P w H s Q E) s
section
variable {P : Program} {w : World} {K : PySem.W.Frag} {mg : Str → Option Value} {base : Heap} {f : Addr} {fd : FuncData} {ps N : List Str} {sp : Sp} {j k : Nat}
end
section
variable {X : Cx} {j : Nat} {f : Addr} {fd : FuncData} {ps : List Str} {sp : Sp} {E : XK} {x : Str} {p pos : Pos} {e : Expr} {es : List Expr} {t : TA}
end
section
variable {X : Xb} {f : Addr} {fd : FuncData} {ps : List Str} {j : Nat} {x : Str} {e : Expr} {es : List Expr} {t : TA} {w : WA} {p pos : Pos} {s : SpecB}
end
section
variable {P : Program} {w : World} {K : PySem.W.Frag} {mg : Str → Option Value} {base : Heap} {f : Addr} {fd : FuncData} {ps N : List Str} {x qual : Str} {st : Stmt} {j : Nat}
end
end DL
set_option Elab.async false
set_option linter.all false
set_option autoImplicit false
set_option maxRecDepth 100000
set_option maxHeartbeats 4000000
/-! DL33: keyword arguments of plain defs. -/
namespace DL
open PySem PySem.Spec PyProof.Rows L2
structure DK (X : Xb) (kws : List Keyword) (t : TA) (w : WA) : Prop where
  pk : PK X kws t
  sa : SA X t w
/-- a def of the top with keyword-only parameters: n written ones, then keywords -/
structure Gk (K : PySem.W.Frag) (mg : Str → Option Value) (x : Str) (st : Stmt) (ps : List Str) (n : Nat) (ks : List Str) (kws : List (Str × V)) : Type where
  f : Addr
  fd : FuncData
  F : Fun K x x st f fd
  g : mg x = some (.ref f)
  /-- all keywords are written -/
  kb : KBn K fd ps n ks (fun us ws => us ++ ws) (fun vs zs => vs ++ zs)
section
variable {X : Xb} {K : PySem.W.Frag} {f : Addr} {fd : FuncData} {ps ks : List Str} {k n : Nat} {x nm : Str} {e : Expr} {es : List Expr} {te : TE} {we : WE} {t tk : TA} {w wk : WA} {p pos kpos : Pos} {kws : List Keyword} {s : SpecD}
/-- a call with keywords -/
def dCallK (n m : Nat) (s : SpecD) (w wk : WA) : WE := fun γ Q => w γ fun ds γ1 => wk γ1 fun es γ2 => ds.length = n ∧ es.length = m ∧ s.S (ds ++ es) fun r => Q r.val γ2
end
end DL
set_option Elab.async false
set_option linter.all false
set_option autoImplicit false
set_option maxRecDepth 100000
set_option maxHeartbeats 4000000
/-! DL34: enumerate of a tuple. -/
namespace PySem
end PySem
namespace DL
open PySem PySem.Spec PyProof.Rows L2
/-- the tuple at a, each item in a new pair -/
def IteT (K : PySem.W.Frag) (a : Addr) : It where
  go i H := ∃ (xs : List V) (x : V), SqT K H a xs ∧ xs[i]? = some x
  yld i H v H1 := ∃ T x, v = .ref T ∧ H T = none ∧ H1 = L2.upd H T (.tup [.int (i : Nat), x]) ∧ ∀ xs, SqT K H a xs → xs[i]? = some x
  stop i H := ∃ xs : List V, SqT K H a xs ∧ xs.length ≤ i
def iEnumT (K : PySem.W.Frag) (ta : TA) : TI := fun σ H R => ta σ H fun vs H1 => ∃ a xs, vs = [.ref a] ∧ SqT K H1 a xs ∧ R (IteT K a) H1
section
variable {X : Xb} {e : Expr} {p pos : Pos}
/-- enumerate(tuple) -/
def dIEnT (w : WA) : WA := fun γ Q => w γ fun ds γ1 => ∃ es, ds = [.tup es] ∧ Q (enumD es) γ1
theorem i_ienT {w : WA} {γ : List Sl} {QA : List D → List Sl → Prop} (q : w γ fun ds γ1 => ∃ es, ds = [.tup es] ∧ QA (enumD es) γ1) : dIEnT w γ QA := q
instance {w : WA} {γ : List Sl} {QA : List D → List Sl → Prop} : Go (dIEnT w γ QA) (w γ fun ds γ1 => ∃ es, ds = [.tup es] ∧ QA (enumD es) γ1) := ⟨fun z => i_ienT z⟩
theorem i_ienT' {ds : List D} {P : List D → Prop} (q : P ds) : ∃ es, [D.tup ds] = [.tup es] ∧ P es := ⟨ds, rfl, q⟩
end
end DL
set_option Elab.async false
set_option linter.all false
set_option autoImplicit false
set_option maxRecDepth 100000
set_option maxHeartbeats 4000000
/-! DL35: try/except whose body raises nothing. -/
namespace DL
open PySem PySem.Spec PyProof.Rows L2
section
variable {X : Xb} {body : List Stmt} {h₀ : ExceptHandler} {hs : List ExceptHandler} {t : TS} {w : WS} {pos : Pos}
end
end DL
set_option Elab.async false
set_option linter.all false
set_option autoImplicit false
set_option maxRecDepth 100000
set_option maxHeartbeats 4000000
/-! DL36: steps with one equation that rfl closes, found by the goal's form; guards. -/
namespace DL
open PySem PySem.Spec PyProof.Rows L2
/-- one step back to «there is one x, an equation, and the rest» -/
class GoH1 (P : Prop) (H : outParam Prop) : Prop where
  go : H → P
/-- .. two x's .. -/
class GoH2 (P : Prop) (H : outParam Prop) : Prop where
  go : H → P
theorem ex_id {α : Sort _} {p : α → Prop} (h : Exists p) : Exists p := h
theorem and_id {p q : Prop} (h : p ∧ q) : p ∧ q := h
section
variable {γ : List Sl} {i h : Nat} {Q : D → List Sl → Prop} {QF : List D → List Sl → Prop} {QT : Bool → List Sl → Prop} {R : D → Prop} {Dd : EndsD} {w : WS} {we wb : WE} {wA : WA} {wt : WT} {ds : List D} {n m : Int}
instance : Go (fLt (.int m) (.int n) R) (R (.bl (decide (m < n)))) := ⟨fun z => i_lt' z⟩
instance : Go (fLe (.int m) (.int n) R) (R (.bl (decide (m ≤ n)))) := ⟨fun z => i_le' z⟩
instance {P : List D → Prop} : Go (∃ es, [D.tup ds] = [.tup es] ∧ P es) (P ds) := ⟨fun z => i_ienT' z⟩
instance {P : List D → Prop} : Go (∃ es, [D.lst ds] = [.lst es] ∧ P es) (P ds) := ⟨fun z => i_ien' z⟩
instance {es : List D} {P : List D → List D → Prop} : Go (∃ a b, [D.lst ds, D.lst es] = [.lst a, .lst b] ∧ P a b) (P ds es) := ⟨fun z => i_iz' z⟩
instance : GoH1 (dVar i γ Q) (∃ d, γ[i]? = some (.val d) ∧ Q d γ) := ⟨fun ⟨_, g, q⟩ => i_var g q⟩
instance : GoH1 (dFrz i w Dd γ) (∃ ds, γ[i]? = some (.own false ds) ∧ w Dd (γ.set i (.val (.lst ds)))) := ⟨fun z => z⟩
instance : GoH1 (dRetO i Dd γ) (∃ ds, γ[i]? = some (.own false ds) ∧ Dd.rt (.f ds) (γ.set i .any)) := ⟨fun z => z⟩
instance {f : Int → Int → Int} : GoH1 (dAug i f we Dd γ) (∃ n, γ[i]? = some (.val (.int n)) ∧ we γ fun d γ1 => ∃ k, d = .int k ∧ Dd.nx (γ1.set i (.val (.int (f n k))))) := ⟨fun z => z⟩
instance {QA : List D → List Sl → Prop} : GoH1 (dIS i γ QA) (∃ ns, γ[i]? = some (.scr ns) ∧ QA (ns.map D.int) γ) := ⟨fun z => z⟩
instance {s : SpecS} : GoH1 (dCallScr i s γ QF) (∃ ns, γ[i]? = some (.scr ns) ∧ s.S ns fun r => ∃ es, r = .f es ∧ QF es γ) := ⟨fun z => z⟩
instance : GoH1 (itemD (.lst ds) (.int n) R) (∃ d, atI ds n = some d ∧ R d) := ⟨fun ⟨_, g, q⟩ => i_ixL g q⟩
instance : GoH1 (itemD (.tup ds) (.int n) R) (∃ d, atI ds n = some d ∧ R d) := ⟨fun ⟨_, g, q⟩ => i_ixT g q⟩
instance : GoH2 (dLendT i wt γ QT) (∃ m ds, γ[i]? = some (.own m ds) ∧ wt (lent i ds γ) fun b _ => QT b γ) := ⟨fun z => z⟩
instance : GoH2 (dLend i we γ Q) (∃ m ds, γ[i]? = some (.own m ds) ∧ we (lent i ds γ) fun d _ => flat d ∧ Q d γ) := ⟨fun z => z⟩
instance : GoH2 (dLenO i γ Q) (∃ m ds, γ[i]? = some (.own m ds) ∧ Q (.int ds.length) γ) := ⟨fun z => z⟩
instance : GoH2 (dIxO i wb γ Q) (∃ m ds, γ[i]? = some (.own m ds) ∧ wb γ fun y γ1 => ∃ k m ds d, y = .int k ∧ γ1[i]? = some (.own m ds) ∧ atI ds k = some d ∧ Q d γ1) := ⟨fun ⟨_, _, g, q⟩ => i_ixO g q⟩
instance : GoH2 (dApp i we Dd γ) (∃ m ds, γ[i]? = some (.own m ds) ∧ we γ fun d γ1 => ∃ m ds, γ1[i]? = some (.own m ds) ∧ ds.length < sizeLine ∧ (m = true → flat d) ∧ Dd.nx (γ1.set i (.own m (ds ++ [d])))) := ⟨fun ⟨_, _, g, q⟩ => i_app g q⟩
instance : GoH2 (dExt i we Dd γ) (∃ m ds, γ[i]? = some (.own m ds) ∧ we γ fun d γ1 => ∃ es m ds, d = .lst es ∧ γ1[i]? = some (.own m ds) ∧ ds.length + es.length ≤ sizeLine ∧ (m = true → flats es) ∧ Dd.nx (γ1.set i (.own m (ds ++ es)))) := ⟨fun ⟨_, _, g, q⟩ => i_ext g q⟩
instance {s : SpecP} : GoH2 (dCallP i s wA γ Q) (∃ m pl, γ[i]? = some (.own m pl) ∧ wA γ fun ds γ1 => ∃ m pl, γ1[i]? = some (.own m pl) ∧ s.S pl ds fun r pl' => Q r.val (γ1.set i (.own m pl'))) := ⟨fun ⟨_, _, g, q⟩ => i_callP g q⟩
instance {s : SpecP} : GoH2 (dCallPF i s wA γ QF) (∃ m pl, γ[i]? = some (.own m pl) ∧ wA γ fun ds γ1 => ∃ m pl, γ1[i]? = some (.own m pl) ∧ s.S pl ds fun r pl' => ∃ es, r = .f es ∧ QF es (γ1.set i (.own m pl'))) := ⟨fun ⟨_, _, g, q⟩ => i_callPF g q⟩
instance {F : Bool → List D → Prop} : GoH2 (∃ m pl, γ[i]? = some (.own m pl) ∧ F m pl) (∃ m pl, γ[i]? = some (.own m pl) ∧ F m pl) := ⟨fun z => z⟩
instance {F : Bool → Bxs → Prop} : GoH2 (∃ m L, γ[h]? = some (.hp m L) ∧ F m L) (∃ m L, γ[h]? = some (.hp m L) ∧ F m L) := ⟨fun z => z⟩
end
end DL
set_option Elab.async false
set_option linter.all false
set_option autoImplicit false
set_option maxRecDepth 100000
set_option maxHeartbeats 4000000
/-! DL37: exceptions: defs that may raise, their calls, raise. -/
namespace DL
open PySem PySem.Spec PyProof.Rows L2
/-- what is wanted of an exception of the class at C, with these fields -/
abbrev EQ := Addr → List (Str × D) → Prop
/-- a promise of a def that may raise -/
structure SpecX where
  S : List D → (Rv → Prop) → EQ → Prop
  mono : ∀ ds (P P' : Rv → Prop) (E E' : EQ), (∀ r, P r → P' r) → (∀ C fs, E C fs → E' C fs) → S ds P E → S ds P' E'
/-- the way out is a function of what comes in -/
def SpecX.fn {α : Type} (args : α → List D) (pre : α → Prop) (out : α → Sum Rv (Addr × List (Str × D))) : SpecX :=
  ⟨fun ds Q E => ∃ a, ds = args a ∧ pre a ∧ (match out a with | .inl r => Q r | .inr e => E e.1 e.2), fun ds P P' E E' k k' ⟨a, e, h, q⟩ => ⟨a, e, h, by
    cases o : out a with
    | inl r => rw [o] at q; exact k _ q
    | inr z => rw [o] at q; exact k' _ _ q⟩⟩
def spX (K : PySem.W.Frag) (s : SpecX) : Sp := fun vs H Q E => ∃ S ds, Same S H ∧ DenL S vs ds ∧ s.S ds (fun r => ∀ v S' H', Rel0 K ⟨H, S, [], [], emptyH⟩ S' H' [] [] → RvOk ⟨H, S, [], [], emptyH⟩ S' H' v r → Q v H')
  (fun C fs => ∀ S' H' d, Rel0 K ⟨H, S, [], [], emptyH⟩ S' H' [] [] → ExD S' d fs → E (.ref C) d H')
/-- a context whose code may raise -/
abbrev Xb.x (c : Cx) (E : XK) (dX : EQ) : Xb := ⟨c, fun cls d _ H => E cls d H, fun C fs _ => dX C fs⟩
section
variable {X : Xb} {K : PySem.W.Frag} {f : Addr} {fd : FuncData} {ps : List Str} {k : Nat} {x : Str} {e : Expr} {es : List Expr} {t : TA} {w : WA} {p pos : Pos}
def dCallX (s : SpecX) (dX : Addr → List (Str × D) → List Sl → Prop) (w : WA) : WE := fun γ Q => w γ fun ds γ1 => s.S ds (fun r => Q r.val γ1) fun C fs => dX C fs γ1
end
section
variable {P : Program} {w : World} {K : PySem.W.Frag} {mg : Str → Option Value} {base : Heap} {x qual : Str} {st : Stmt} {f : Addr} {fd : FuncData} {N ps : List Str} {k : Nat}
end
/-! ### raise -/
/-- an own exception class without an own __init__ -/
structure Xc0 (K : PySem.W.Frag) (mg : Str → Option Value) (x : Str) where
  C : Addr
  g : mg x = some (.ref C)
  q : PySem.W.excIn K C [.type "ValueError", .type "Exception", .type "BaseException", .type "object"] "ValueError.__new__" = true
  k : PySem.W.keepIn K (.ref C) = true
  b : PySem.W.subIn K (.ref C) (.type "BaseException") = some true
  t : PySem.W.typeIn K (.ref C) = some (.type "type")
section
variable {X : Xb} {x : Str} {p p2 pos : Pos} {te : TE} {we : WE} {e : Expr}
def dRaise0 (C : Addr) (dX : Addr → List (Str × D) → List Sl → Prop) : WS := fun _ γ => dX C [] γ
/-- what the __init__ of a class with one field does -/
def spInit1 (C : Addr) (f : Str) : Sp := fun vs H Q _ => ∃ a y, vs = [.ref a, y] ∧ H a = some (exo a C none) ∧ ∀ dx, H dx = none → dx ≠ a → Q .non (upd (upd H dx (exd dx [(f, y)])) a (exo a C (some dx)))
/-- an own exception class with an __init__ of one field -/
structure Xc1 (P : Program) (w : World) (K : PySem.W.Frag) (mg : Str → Option Value) (base : Heap) (x f : Str) where
  C : Addr
  g : mg x = some (.ref C)
  T : OexC K C
  fI : Addr
  i : PySem.W.findIn K (.ref C) "__init__" = some (some (.ref fI))
  ti : PySem.W.typeIn K (.ref fI) = some (.type "function")
  fd : FuncData
  ps : List Str
  F : FnOk P w K mg base CX0 1 fI fd ps (spInit1 C f)
  b : Binds K fd ps []
def dRaise1 (C : Addr) (f : Str) (we : WE) (dX : Addr → List (Str × D) → List Sl → Prop) : WS := fun _ γ => we γ fun d γ1 => dX C [(f, d)] γ1
end
end DL
set_option Elab.async false
set_option linter.all false
set_option autoImplicit false
set_option maxRecDepth 100000
set_option maxHeartbeats 4000000
/-! DL38: try: .. except C as e: .. -/
namespace DL
open PySem PySem.Spec PyProof.Rows L2
/-- slot i is forgotten, its variable may change -/
theorem Rel0.forget {K : PySem.W.Frag} {B : Bs} {S H : Hp} {σ : L2.St} {γ : List Sl} {i : Nat} {v : Option V} (R : Rel0 K B S H σ γ) : Rel0 K B S H (σ.set i v) (γ.set i .any) := by
  obtain ⟨φ, r⟩ := R.drop (i := i)
  refine ⟨φ, r.same, r.keep, r.muk, r.grow, r.ext, by rw [List.length_set]; exact r.len, fun j s h => ?_, r.phH, r.phS, r.phD, r.phO, r.frm, r.frn, r.spS⟩
  by_cases e : j = i
  · subst e
    by_cases hl : j < γ.length
    · rw [List.getElem?_set_self hl] at h
      cases h
      trivial
    · rw [List.getElem?_eq_none (by rw [List.length_set]; omega)] at h
      cases h
  · rw [List.getElem?_set_ne (fun z => e z.symm)]
    exact r.sl j s h
/-! statements where nothing is kept aside -/
structure SS0 (X : Xb) (t : TS) (w : WS) : Prop where
  run : ∀ B S0 S H σ γ Dd D, B.fr = [] → Rel X B S H σ γ → Same S0 S → Link X B S0 Dd D → w Dd γ → t D σ H
structure DS0 (X : Xb) (st : Stmt) (t : TS) (w : WS) : Prop where
  ps : PS X st t
  ss : SS0 X t w
structure DSs0 (X : Xb) (st : List Stmt) (t : TS) (w : WS) : Prop where
  ps : PSs X st t
  ss : SS0 X t w
section
variable {X : Xb} {st : Stmt} {rest sts : List Stmt} {t u : TS} {w w' : WS}
theorem SS.s0 (h : SS X t w) : SS0 X t w := ⟨fun B S0 S H σ γ Dd D _ R e L q => h.run B S0 S H σ γ Dd D R e L q⟩
theorem DS.d0 (h : DS X st t w) : DS0 X st t w := ⟨h.ps, h.ss.s0⟩
theorem DSs.d0 (h : DSs X sts t w) : DSs0 X sts t w := ⟨h.ps, h.ss.s0⟩
theorem dss0_cons (h : DS0 X st t w) (h' : DSs0 X rest u w') : DSs0 X (st :: rest) (tSeq t u) (dSeq w w') :=
  ⟨pss_cons h.ps h'.ps, ⟨fun B S0 S H σ γ Dd D f R e L q => h.ss.run B S0 S H σ γ { Dd with nx := w' Dd } _ f R e ⟨fun S1 H1 σ1 γ1 e1 R1 q1 => h'.ss.run B S0 S1 H1 σ1 γ1 Dd D f R1 e1 L q1, L.rt, L.bk, L.ct⟩ q⟩⟩
end
section
variable {P : Program} {w : World} {K : PySem.W.Frag} {mg : Str → Option Value} {base : Heap} {x qual : Str} {st : Stmt} {f : Addr} {fd : FuncData} {N ps : List Str} {k : Nat}
end
/-! ### try -/
/-- what is known of a caught exception -/
def KnowX (cls : Value) (C : Addr) (d : Option Addr) (fs : List (Str × D)) : WX := fun _ _ _ H => cls = .ref C ∧ (d = none ∨ ∃ dd ws, d = some dd ∧ H dd = some (.xd ws)) ∧ ∀ f x, fs.lookup f = some x → flat x → ∃ dd ws v, d = some dd ∧ H dd = some (.xd ws) ∧ ws.lookup f = some v ∧ ∀ S, Den S v x
theorem KnowX.c {cls : Value} {C : Addr} {d : Option Addr} {fs : List (Str × D)} {e : Value} {d' : Option Addr} {σ : L2.St} {H : Hp} (k : KnowX cls C d fs e d' σ H) : cls = .ref C := k.1
/-- the context of an except suite: what is known of the exception stands in the place of the wish -/
abbrev Xb.su (X : Xb) (a : Addr) (oe : Obj) (pn : List (Addr × Obj)) (cls : Value) (C : Addr) (d : Option Addr) (fs : List (Str × D)) : Xb := ⟨X.c.suite a ((a, oe) :: pn), KnowX cls C d fs, fun _ _ _ => True⟩
def dTryAs (K : PySem.W.Frag) (C : Addr) (i : Nat) (wb : (Addr → List (Str × D) → List Sl → Prop) → WS) (wsu : Addr → List (Str × D) → WS) (dX : Addr → List (Str × D) → List Sl → Prop) : WS := fun Dd γ =>
  wb (fun C' fs γ1 => (C' = C ∧ ∀ a, wsu a fs { nx := fun γ2 => Dd.nx (γ2.set i .any), rt := Dd.rt, bk := fun γ2 => Dd.bk (γ2.set i .any), ct := fun γ2 => Dd.ct (γ2.set i .any) } (γ1.set i (.val (.ref a)))) ∨ (PySem.W.exmOne K (.ref C') (.ref C) = some false ∧ dX C' fs γ1)) Dd γ
section
variable {X : Xb} {i : Nat} {n x : Str} {body suite : List Stmt} {b₀ : Stmt} {np pos pos' : Pos} {tb : WX → TS} {ts : Addr → Value → Option Addr → TS} {wb : (Addr → List (Str × D) → List Sl → Prop) → WS} {wsu : Addr → List (Str × D) → WS} {C : Addr}
/-- e.f in an except suite (a field without parts) -/
def dXf (a : Addr) (fs : List (Str × D)) (i : Nat) (f : Str) : WE := fun γ Q => γ[i]? = some (.val (.ref a)) ∧ ∃ z, fs.lookup f = some z ∧ flat z ∧ Q z γ
end
end DL
set_option Elab.async false
set_option linter.all false
set_option autoImplicit false
set_option maxRecDepth 100000
set_option maxHeartbeats 4000000
/-! DL39: exceptions of defs that change boxes. -/
namespace DL
open PySem PySem.Spec PyProof.Rows L2
structure SpecBX where
  S : List D → Bxs → (D → Bxs → Prop) → EQ → Prop
  mono : ∀ ds L (P P' : D → Bxs → Prop) (E E' : EQ), (∀ d L', P d L' → P' d L') → (∀ C fs, E C fs → E' C fs) → S ds L P E → S ds L P' E'
/-- what comes and what changes, or an exception, by parameters -/
def SpecBX.fn {α : Type} (args : α → List D) (pre : α → Bxs → Prop) (post : α → D → Bxs → Bxs → Prop) (ex : α → Addr → List (Str × D) → Prop) : SpecBX :=
  ⟨fun ds L Q E => ∃ a, ds = args a ∧ pre a L ∧ (∀ d L', post a d L L' → Q d L') ∧ ∀ C fs, ex a C fs → E C fs, fun ds L P P' E E' k k' ⟨a, e, h, q, z⟩ => ⟨a, e, h, fun d L' r => k _ _ (q d L' r), fun C fs r => k' _ _ (z C fs r)⟩⟩
def spBX (K : PySem.W.Frag) (s : SpecBX) : Sp := fun vs H Q E => ∃ S mu L ds, Same S H ∧ (∀ a, a ∈ mu ↔ L a ≠ none) ∧ (∀ p b, L p = some b → S p = none ∧ BxOk S (H p) (some b)) ∧ DenL S vs ds ∧
  s.S ds L (fun d L' => ∀ v S' H', Rel0 K ⟨H, S, mu, [], emptyH⟩ S' H' [] [] → BxsOut S' H' L' mu H → Den S' v d → Q v H') (fun C fs => ∀ S' H' d L', Rel0 K ⟨H, S, mu, [], emptyH⟩ S' H' [] [] → BxsOut S' H' L' mu H → ExD S' d fs → E (.ref C) d H')
section
variable {X : Xb} {K : PySem.W.Frag} {C f : Addr} {fd : FuncData} {ps : List Str} {k : Nat} {x m : Str} {e o : Expr} {es : List Expr} {t : TA} {w : WA} {ta : TE} {wa : WE} {p pos apos : Pos} {s : SpecBX} {pl : Sem Bool}
/-- a call -/
def dCallBX (h : Nat) (s : SpecBX) (dX : Addr → List (Str × D) → List Sl → Prop) (w : WA) : WE := fun γ Q => w γ fun ds γ1 => ∃ m L, γ1[h]? = some (.hp m L) ∧ s.S ds L (fun d L' => Q d (γ1.set h (.hp m L'))) fun C fs => ∀ L', dX C fs (γ1.set h (.hp m L'))
/-- a method of an instance in a box; what is wanted of an exception does not look at the slots' variables (a def's own body, no try) -/
def dMethBX (h : Nat) (C : Addr) (m : Str) (s : SpecBX) (dX : Addr → List (Str × D) → List Sl → Prop) (wa : WE) (w : WA) : WE := fun γ Q => wa γ fun x γ1 => ∃ mm L q fs, x = .ref q ∧ γ1[h]? = some (.hp mm L) ∧ L q = some (.ins C fs) ∧ fs.lookup m = none ∧ w γ1 fun ds γ2 => ∃ mm L, γ2[h]? = some (.hp mm L) ∧ s.S (.ref q :: ds) L (fun d L' => Q d (γ2.set h (.hp mm L'))) fun C fs => ∀ L', dX C fs (γ2.set h (.hp mm L'))
end
section
variable {P : Program} {w : World} {K : PySem.W.Frag} {mg : Str → Option Value} {base : Heap} {x qual : Str} {st : Stmt} {f : Addr} {fd : FuncData} {N ps : List Str} {k : Nat}
end
end DL
set_option Elab.async false
set_option linter.all false
set_option autoImplicit false
set_option maxRecDepth 100000
set_option maxHeartbeats 4000000
/-! DL40: steps for exceptions. -/
namespace DL
open PySem PySem.Spec PyProof.Rows L2
section
variable {γ : List Sl} {h i : Nat} {Q : D → List Sl → Prop} {dX : Addr → List (Str × D) → List Sl → Prop} {w : WA} {we wa : WE} {Dd : EndsD} {C a : Addr} {f m : Str} {s : SpecX} {sb : SpecBX} {fs : List (Str × D)}
instance : Go (dCallX s dX w γ Q) (w γ fun ds γ1 => s.S ds (fun r => Q r.val γ1) fun C fs => dX C fs γ1) := ⟨fun z => z⟩
instance : Go (dCallBX h sb dX w γ Q) (w γ fun ds γ1 => ∃ m L, γ1[h]? = some (.hp m L) ∧ sb.S ds L (fun d L' => Q d (γ1.set h (.hp m L'))) fun C fs => ∀ L', dX C fs (γ1.set h (.hp m L'))) := ⟨fun z => z⟩
instance : Go (dMethBX h C m sb dX wa w γ Q) (wa γ fun x γ1 => ∃ mm L q fs, x = .ref q ∧ γ1[h]? = some (.hp mm L) ∧ L q = some (.ins C fs) ∧ fs.lookup m = none ∧ w γ1 fun ds γ2 => ∃ mm L, γ2[h]? = some (.hp mm L) ∧ sb.S (.ref q :: ds) L (fun d L' => Q d (γ2.set h (.hp mm L'))) fun C fs => ∀ L', dX C fs (γ2.set h (.hp mm L'))) := ⟨fun z => z⟩
instance : Go (dRaise0 C dX Dd γ) (dX C [] γ) := ⟨fun z => z⟩
instance : Go (dRaise1 C f we dX Dd γ) (we γ fun d γ1 => dX C [(f, d)] γ1) := ⟨fun z => z⟩
instance {K : PySem.W.Frag} {wb : (Addr → List (Str × D) → List Sl → Prop) → WS} {wsu : Addr → List (Str × D) → WS} : Go (dTryAs K C i wb wsu dX Dd γ) (wb (fun C' fs γ1 => (C' = C ∧ ∀ a, wsu a fs { nx := fun γ2 => Dd.nx (γ2.set i .any), rt := Dd.rt, bk := fun γ2 => Dd.bk (γ2.set i .any), ct := fun γ2 => Dd.ct (γ2.set i .any) } (γ1.set i (.val (.ref a)))) ∨ (PySem.W.exmOne K (.ref C') (.ref C) = some false ∧ dX C' fs γ1)) Dd γ) := ⟨fun z => z⟩
end
end DL
set_option Elab.async false
set_option linter.all false
set_option autoImplicit false
set_option maxRecDepth 100000
set_option maxHeartbeats 4000000
/-! DL41: calls with keywords of defs that may raise; list(..) and + over them are plain expressions. -/
namespace DL
open PySem PySem.Spec PyProof.Rows L2
/-- the reading: what is wished of an exception looks at the slots -/
def tCallNX (n m : Nat) (sp : Sp) (gV : List V → List V → List V) (E : L2.St → XK) (t tk : TA) : TE := fun σ H Q => t σ H fun vs H1 => tk σ H1 fun zs H2 => vs.length = n ∧ zs.length = m ∧ sp (gV vs zs) H2 Q (E σ)
section
variable {X : Cx} {CX : CXT} {k n : Nat} {f : Addr} {fd : FuncData} {ps ks : List Str} {sp : Sp} {E : L2.St → XK} {x : Str} {p pos : Pos} {e : Expr} {es : List Expr} {kws : List Keyword} {t tk : TA} {g : List Value → List Value → List Value} {gV : List V → List V → List V}
end
section
variable {X : Xb} {K : PySem.W.Frag} {f : Addr} {fd : FuncData} {ps ks : List Str} {k n : Nat} {x : Str} {e : Expr} {es : List Expr} {t tk : TA} {w wk : WA} {p pos : Pos} {kws : List Keyword} {s : SpecX}
def dCallKX (n m : Nat) (s : SpecX) (dX : Addr → List (Str × D) → List Sl → Prop) (w wk : WA) : WE := fun γ Q => w γ fun ds γ1 => wk γ1 fun es γ2 => ds.length = n ∧ es.length = m ∧ s.S (ds ++ es) (fun r => Q r.val γ2) fun C fs => dX C fs γ2
instance {γ : List Sl} {Q : D → List Sl → Prop} {m : Nat} {dX : Addr → List (Str × D) → List Sl → Prop} : Go (dCallKX n m s dX w wk γ Q) (w γ fun ds γ1 => wk γ1 fun es γ2 => ds.length = n ∧ es.length = m ∧ s.S (ds ++ es) (fun r => Q r.val γ2) fun C fs => dX C fs γ2) := ⟨fun z => z⟩
/-- what the law asks of a class whose exceptions it catches by name and whose field f it reads -/
structure Xh (K : PySem.W.Frag) (C : Addr) (f : Str) : Prop where
  ex : PySem.W.exmOne K (.ref C) (.ref C) = some true
  T : XfC K C
  no : PySem.W.findIn K (.ref C) f = some none
end
end DL
set_option Elab.async false
set_option linter.all false
set_option autoImplicit false
set_option maxRecDepth 100000
set_option maxHeartbeats 4000000
/-! DL42: calls of defs that may raise, in a try's body: what is wished of an exception is told explicitly (it is a variable there). -/
namespace DL
open PySem PySem.Spec PyProof.Rows L2
section
variable {X : Xb} {K : PySem.W.Frag} {f : Addr} {fd : FuncData} {ps ks : List Str} {k n : Nat} {x : Str} {e : Expr} {es : List Expr} {t tk : TA} {w wk : WA} {p pos : Pos} {kws : List Keyword} {s : SpecX}
end
end DL
set_option Elab.async false
set_option linter.all false
set_option autoImplicit false
set_option maxRecDepth 100000
set_option maxHeartbeats 4000000
/-! DL43: the head's facts of own exception classes. -/
namespace DL
open PySem PySem.Spec PyProof.Rows L2 He
section
variable {P : Program} {w : World} {K : PySem.W.Frag} {mg : Str → Option Value} {base : Heap} {x qual : Str} {st : Stmt} {f : Addr} {fd : FuncData} {s v fld : Str} {C : Addr}
theorem fn_init1 {p1 p2 p3 pos : Pos} (F : Fun K x qual st f fd) (Sc : FnScope [s, v] [s, v] (defScope st)) (hb : defBody st = [.Assign [.Attribute (.Name s p1) fld p2] (.Name v p3) pos]) (T : OexC K C) (hno : PySem.W.findIn K (.ref C) fld = some none)
    (d1 : (s == ("__debug__" : Str)) = false := by decide) (d2 : (s == ("__classdict__" : Str)) = false := by decide) (d3 : (v == ("__debug__" : Str)) = false := by decide) (d4 : (v == ("__classdict__" : Str)) = false := by decide) : FnOk P w K mg base CX0 1 f fd [s, v] (spInit1 C fld) := by
  have vis : ∀ y ∈ [s, v], ∀ (H : Hp) (cdv : Value) (A : Around) (outer : List Env) (s0 : Shared) (E : XK), Vis (cxOf CX0 P w K mg base [s, v] qual (defScope st) f cdv A outer s0 H E).nox.env.scope y := fun y hy H cdv A outer s0 E => by
    rcases Sc.par y hy with h | h
    · exact .inl h
    · exact .inr (.inl h)
  refine F.ok Sc (fun vs H Q E ⟨a, y, e, _⟩ => by rw [e]; rfl) fun cdv A outer s0 H vs Q E hr ⟨a, y, e, ha, q⟩ => ⟨tOst K fld (tVar 0) (tVar 1), ?_, ?_⟩
  · rw [hb]
    exact pss_one (ps_ost (X := (cxOf CX0 P w K mg base [s, v] qual (defScope st) f cdv A outer s0 H E).nox) (pe_var rfl (vis s (by simp) H cdv A outer s0 E) d1 d2) (pe_var rfl (vis v (by simp) H cdv A outer s0 E) d3 d4))
  · subst e
    exact ⟨y, rfl, .ref a, rfl, a, C, rfl, T, hno, .inl ⟨ha, fun dx h1 h2 => q dx h1 h2⟩⟩
end
section
variable {P : Program} {w : World} {K : PySem.W.Frag} {mg : Str → Option Value} {base h : Heap} {x : Str}
theorem base_ok (c : baseB x K = true) : PySem.W.subIn K (.ref (ga K x)) (.type "BaseException") = some true ∧ PySem.W.typeIn K (.ref (ga K x)) = some (.type "type") ∧ PySem.W.keepIn K (.ref (ga K x)) = true := by
  obtain ⟨c1, c⟩ := ba c
  obtain ⟨c2, c3⟩ := ba c
  exact ⟨of_decide_eq_true c1, of_decide_eq_true c2, c3⟩
theorem oexC1_ok {C : Addr} (q : oexC1 K C = true) : ∃ nm q N bs bm sn sub ab col dd k0 k1 k2 k3 k5, K.lookup C = some (excClassObj nm q C N bs bm true sn sub ab col dd k0 k1 k2 k3 k5 "ValueError.__new__") ∧ PySem.HandSPX.refsVE bm = true := by
  unfold oexC1 at q
  split at q
  · rename_i dd cd sl ho
    split at q
    · rename_i C' bm k0 k1 k2 k3 n k5 hm hs
      simp only [Bool.and_eq_true, beq_iff_eq, Bool.not_eq_true'] at q
      obtain ⟨rfl, rfl, hdel, hdic, ht⟩ := q
      obtain ⟨nm, bs, mro, ns, qn, hd, sn, sub, ab, col, del⟩ := cd
      dsimp only at hm hdel hdic
      subst hm hdel hdic
      have hsl : sl = #[k0, k1, k2, k3, some (.builtin "ValueError.__new__"), k5] := by
        obtain ⟨l⟩ := sl
        simp only at hs
        rw [hs]
      subst hsl
      exact ⟨nm, qn, ns, bs, bm, sn, sub, ab, col, dd, k0, k1, k2, k3, k5, ho, ht⟩
    · cases q
  · cases q
theorem oex_ok (c : oexB x K = true) : OexC K (ga K x) := by
  obtain ⟨c1, c⟩ := ba c
  obtain ⟨c2, c3⟩ := ba c
  obtain ⟨b1, b2, b3⟩ := base_ok c3
  exact ⟨oexC1_ok c1, eqO_ok c2, b1, b2, b3⟩
def Xc0.of (X : K.In h) (G : h.Ns mainGlobals mg) (hg : (Fa.glo x).ok K = true) (c : exc0B x K = true) : Xc0 K mg x :=
  have c' := ba c
  have b := base_ok c'.2
  ⟨ga K x, glo_ok X G hg, c'.1, b.2.2, b.1, b.2.1⟩
theorem xh_ok {f : Str} (c : xhB x f K = true) : Xh K (ga K x) f := by
  obtain ⟨c1, c⟩ := ba c
  obtain ⟨c2, c3⟩ := ba c
  exact ⟨of_decide_eq_true c1, xfB_ok c2, eqO_ok c3⟩
def Xc1.of {fld qual s v : Str} {st : Stmt} {p1 p2 p3 pos : Pos} (X : K.In h) (G : h.Ns mainGlobals mg) (hg : (Fa.glo x).ok K = true) (c : oexB x K = true) (cx : xhB x fld K = true) (Gi : Gm K (ga K x) "__init__" qual st [s, v]) (Sc : FnScope [s, v] [s, v] (defScope st)) (hb : defBody st = [.Assign [.Attribute (.Name s p1) fld p2] (.Name v p3) pos])
    (d1 : (s == ("__debug__" : Str)) = false := by decide) (d2 : (s == ("__classdict__" : Str)) = false := by decide) (d3 : (v == ("__debug__" : Str)) = false := by decide) (d4 : (v == ("__classdict__" : Str)) = false := by decide) : Xc1 P w K mg base x fld :=
  { C := ga K x
    g := glo_ok X G hg
    T := oex_ok c
    fI := Gi.f
    i := Gi.at
    ti := beq_iff_eq.mp Gi.fn
    fd := Gi.fd
    ps := [s, v]
    F := fn_init1 Gi.F Sc hb (oex_ok c) (xh_ok cx).no d1 d2 d3 d4
    b := Gi.b }
end
end DL
set_option Elab.async false
set_option linter.all false
set_option autoImplicit false
set_option maxRecDepth 100000
set_option maxHeartbeats 4000000
/-! DL44: a tuple repeated. -/
namespace DL
open PySem PySem.Spec PyProof.Rows L2
section
variable {X : Cx}
/-- a tuple repeated, once or more: repeated once it is itself -/
def rRepN (K : PySem.W.Frag) : R2 := fun x y H Q => ∃ l k xs, x = .ref l ∧ y = .int k ∧ SqT K H l xs ∧ xs ≠ [] ∧ 1 ≤ k ∧ k ≤ 1000 ∧ xs.length ≤ 1000 ∧ (k = 1 → Q (.ref l) H) ∧ (2 ≤ k → ∀ p, H p = none → Q (.ref p) (upd H p (.tup (List.replicate k.toNat xs).flatten)))
end
section
variable {X : Xb} {a b : Expr} {ta tb : TE} {wa wb : WE} {pos : Pos}
def dRepT (wa wb : WE) : WE := fun γ Q => wa γ fun x γ1 => wb γ1 fun y γ2 => ∃ ds k, x = .tup ds ∧ y = .int k ∧ ds ≠ [] ∧ 1 ≤ k ∧ k ≤ 1000 ∧ ds.length ≤ 1000 ∧ Q (.tup (List.replicate k.toNat ds).flatten) γ2
end
section
variable {γ : List Sl} {wa wb : WE} {Q : D → List Sl → Prop} {ds : List D} {k : Int}
instance : Go (dRepT wa wb γ Q) (wa γ fun x γ1 => wb γ1 fun y γ2 => ∃ ds k, x = .tup ds ∧ y = .int k ∧ ds ≠ [] ∧ 1 ≤ k ∧ k ≤ 1000 ∧ ds.length ≤ 1000 ∧ Q (.tup (List.replicate k.toNat ds).flatten) γ2) := ⟨fun z => z⟩
end
end DL
set_option Elab.async false
set_option linter.all false
set_option autoImplicit false
set_option maxRecDepth 100000
set_option maxHeartbeats 4000000
/-! DL45: a list in a box that stands in a tuple: lent, frozen; a box's list handed out as a new list. -/
namespace DL
open PySem PySem.Spec PyProof.Rows L2
/-- the box among the items, told as a list -/
theorem DenL.told {S S' : Hp} {zs : List V} {pre post : List D} {q : Addr} {es : List D} (h : DenL S zs (pre ++ .ref q :: post)) (e : Same S S') (d : Den S' (.ref q) (.lst es)) : DenL S' zs (pre ++ .lst es :: post) := by
  refine ⟨by rw [h.1, List.length_append, List.length_append]; rfl, fun i x y h1 h2 => ?_⟩
  by_cases hi : i = pre.length
  · subst hi
    rw [List.getElem?_append_right (Nat.le_refl _), Nat.sub_self] at h2
    cases h2
    have h3 := h.2 pre.length x (.ref q) h1 (by rw [List.getElem?_append_right (Nat.le_refl _), Nat.sub_self]; rfl)
    cases h3
    exact d
  · refine (h.2 i x y h1 ?_).mono e
    by_cases hl : i < pre.length
    · rw [List.getElem?_append_left hl] at h2 ⊢
      exact h2
    · rw [List.getElem?_append_right (by omega)] at h2 ⊢
      obtain ⟨j, hj⟩ : ∃ j, i - pre.length = j + 1 := ⟨i - pre.length - 1, by omega⟩
      rw [hj] at h2 ⊢
      exact h2
section
variable {X : Xb} {K : PySem.W.Frag} {B : Bs} {S H : Hp} {σ : L2.St} {γ : List Sl} {i h : Nat} {pre post es : List D} {q : Addr} {m : Bool} {L : Bxs}
theorem Den.told {S' : Hp} {v : V} (d : Den S v (.tup (pre ++ .ref q :: post))) (e : Same S S') (d2 : Den S' (.ref q) (.lst es)) : Den S' v (.tup (pre ++ .lst es :: post)) := by
  obtain ⟨a, zs, rfl, h1, h2⟩ := d.tup_inv
  exact .ofT (e _ _ h1) (h2.told e d2)
end
section
variable {X : Xb} {e : Expr} {te : TE} {we : WE} {tt : TT} {wt : WT} {sts : List Stmt} {t : TS} {w : WS} {pos : Pos}
def LendsB (γ : List Sl) (i h : Nat) (P : List Sl → Prop) : Prop := ∃ pre q post es m L, γ[i]? = some (.val (.tup (pre ++ .ref q :: post))) ∧ γ[h]? = some (.hp m L) ∧ L q = some (.lst es) ∧ P ((lentS γ).set i (.val (.tup (pre ++ .lst es :: post))))
def dLendBT (i h : Nat) (wt : WT) : WT := fun γ Q => LendsB γ i h fun γ1 => wt γ1 fun b _ => Q b γ
def dLendBE (i h : Nat) (we : WE) : WE := fun γ Q => LendsB γ i h fun γ1 => we γ1 fun d _ => flat d ∧ Q d γ
/-- from here on the box in slot i's tuple is a list, its value -/
def dFrzTB (i h : Nat) (w : WS) : WS := fun Dd γ => ∃ pre q post es L, γ[i]? = some (.val (.tup (pre ++ .ref q :: post))) ∧ γ[h]? = some (.hp false L) ∧ L q = some (.lst es) ∧ w Dd ((γ.set h (.hp false (delB L q))).set i (.val (.tup (pre ++ .lst es :: post))))
/-- return of a list in a box of one's own, as a new list -/
def dRetBx (h : Nat) (we : WE) : WS := fun Dd γ => we γ fun d γ1 => ∃ L q es, d = .ref q ∧ γ1[h]? = some (.hp false L) ∧ L q = some (.lst es) ∧ Dd.rt (.f es) γ1
end
section
variable {γ : List Sl} {i h : Nat} {pre post es : List D} {q : Addr} {m : Bool} {L : Bxs} {we : WE} {wt : WT} {w : WS} {Dd : EndsD} {Q : D → List Sl → Prop} {QT : Bool → List Sl → Prop}
instance : Go (dLendBT i h wt γ QT) (LendsB γ i h fun γ1 => wt γ1 fun b _ => QT b γ) := ⟨fun z => z⟩
instance : Go (dLendBE i h we γ Q) (LendsB γ i h fun γ1 => we γ1 fun d _ => flat d ∧ Q d γ) := ⟨fun z => z⟩
instance : Go (dRetBx h we Dd γ) (we γ fun d γ1 => ∃ L q es, d = .ref q ∧ γ1[h]? = some (.hp false L) ∧ L q = some (.lst es) ∧ Dd.rt (.f es) γ1) := ⟨fun z => z⟩
end
end DL
set_option Elab.async false
set_option linter.all false
set_option autoImplicit false
set_option maxRecDepth 100000
set_option maxHeartbeats 4000000
/-! DL46: try with several handlers that name nothing; calls with defaults. -/
namespace DL
open PySem PySem.Spec PyProof.Rows L2
/-- the context of an except suite that raises nothing -/
abbrev Xb.sn (X : Xb) (a : Addr) (oe : Obj) (pn : List (Addr × Obj)) : Xb := ⟨X.c.suite a ((a, oe) :: pn), fun _ _ _ _ => True, fun _ _ _ => True⟩
inductive DHds (X : Xb) : List ExceptHandler → List (Value × (Addr → Value → Option Addr → TS)) → List (Addr × WS) → Prop
  | nil : DHds X [] [] []
  | cons {x : Str} {C : Addr} {ts : Addr → Value → Option Addr → TS} {w : WS} {b₀ : Stmt} {suite : List Stmt} {np pos' : Pos} {hds : List ExceptHandler} {l : List (Value × (Addr → Value → Option Addr → TS))} {wl : List (Addr × WS)} (hg : X.mg x = some (.ref C))
      (hsu : ∀ (a : Addr) (oe : Obj) (cls : Value) (d : Option Addr) (pn : List (Addr × Obj)), Zc cls d oe → (∃ vs, oe.data = .fields vs) → DSs (X.sn a oe pn) (b₀ :: suite) (ts a cls d) w) (r : DHds X hds l wl) (hgl : Gl X x := by rfl) (hdb : (x == ("__debug__" : Str)) = false := by decide) :
      DHds X (.ExceptHandler (some (.Name x np)) none (b₀ :: suite) pos' :: hds) ((.ref C, ts) :: l) ((C, w) :: wl)
def manyD (K : PySem.W.Frag) (dX : Addr → List (Str × D) → List Sl → Prop) (Dd : EndsD) : List (Addr × WS) → Addr → List (Str × D) → List Sl → Prop
  | [] => dX
  | (C, w) :: r => fun C' fs γ => ∃ b, PySem.W.exmOne K (.ref C') (.ref C) = some b ∧ (b = true → w Dd γ) ∧ (b = false → manyD K dX Dd r C' fs γ)
def dTryMany (K : PySem.W.Frag) (wl : List (Addr × WS)) (wb : (Addr → List (Str × D) → List Sl → Prop) → WS) (dX : Addr → List (Str × D) → List Sl → Prop) : WS := fun Dd γ => wb (manyD K dX Dd wl) Dd γ
theorem DHds.ok {X : Xb} {hds : List ExceptHandler} {l : List (Value × (Addr → Value → Option Addr → TS))} {wl : List (Addr × WS)} (h : DHds X hds l wl) : HdsOk X.c hds l := by
  induction h with
  | nil => exact .nil
  | cons hg hsu r hgl hdb ih => exact .cons ⟨hgl, hdb, .inl hg⟩ (fun a oe cls d pn hz hd => (hsu a oe cls d pn hz hd).ps) ih
section
variable {X : Xb} {body : List Stmt} {h₀ : ExceptHandler} {hds : List ExceptHandler} {pos : Pos} {tb : WX → TS} {wb : (Addr → List (Str × D) → List Sl → Prop) → WS} {l : List (Value × (Addr → Value → Option Addr → TS))} {wl : List (Addr × WS)}
end
section
variable {K : PySem.W.Frag} {γ : List Sl} {Dd : EndsD} {wl : List (Addr × WS)} {wb : (Addr → List (Str × D) → List Sl → Prop) → WS} {dX : Addr → List (Str × D) → List Sl → Prop}
instance : Go (dTryMany K wl wb dX Dd γ) (wb (manyD K dX Dd wl) Dd γ) := ⟨fun z => z⟩
end
end DL
/-! ### calls with the keyword-only parameters left out -/
namespace DL
open PySem PySem.Spec PyProof.Rows L2
section
variable {X : Xb} {K : PySem.W.Frag} {f : Addr} {fd : FuncData} {ps : List Str} {k n : Nat} {x : Str} {e : Expr} {es : List Expr} {t : TA} {w : WA} {p pos : Pos} {s : SpecX} {mv : List Value} {dvs : List V} {dds : List D}
def dCallKD (n : Nat) (dds : List D) (s : SpecX) (dX : Addr → List (Str × D) → List Sl → Prop) (w : WA) : WE := fun γ Q => w γ fun ds γ1 => ds.length = n ∧ s.S (ds ++ dds) (fun r => Q r.val γ1) fun C fs => dX C fs γ1
instance {γ : List Sl} {Q : D → List Sl → Prop} {dX : Addr → List (Str × D) → List Sl → Prop} : Go (dCallKD n dds s dX w γ Q) (w γ fun ds γ1 => ds.length = n ∧ s.S (ds ++ dds) (fun r => Q r.val γ1) fun C fs => dX C fs γ1) := ⟨fun z => z⟩
/-- bound with the defaults dvs -/
structure Kd (K : PySem.W.Frag) (fd : FuncData) (ps : List Str) (n : Nat) (dvs : List V) : Type where
  mv : List Value
  kb : KBn K fd ps n [] (fun us ws => us ++ (mv ++ ws)) (fun vs zs => vs ++ (dvs ++ zs))
end
end DL
set_option Elab.async false
set_option linter.all false
set_option autoImplicit false
set_option maxRecDepth 100000
set_option maxHeartbeats 4000000
/-! DL47: append in a try's body or suite. -/
namespace DL
open PySem PySem.Spec PyProof.Rows L2
section
variable {X : Xb} {e : Expr} {te : TE} {we : WE} {pos : Pos}
end
end DL
set_option Elab.async false
set_option linter.all false
set_option autoImplicit false
set_option maxRecDepth 100000
set_option maxHeartbeats 4000000
/-! DL48: try with several handlers, of which some name the exception. -/
namespace L2
open PySem PySem.Spec PyProof.Rows
abbrev MixH := Value × Option Nat × (Addr → Value → Option Addr → TS)
/-- the ends of a suite whose name i is unbound behind it -/
abbrev endsU (D : Ends) (i : Nat) : Ends := { nx := fun σ' H' => D.nx (σ'.set i none) H', rt := D.rt, bk := fun σ' H' => D.bk (σ'.set i none) H', ct := fun σ' H' => D.ct (σ'.set i none) H' }
def wMix (K : PySem.W.Frag) (Wout : WX) (D : Ends) : List MixH → WX
  | [] => Wout
  | (c, none, ts) :: r => fun cls d σ H => ∃ b, PySem.W.exmOne K cls c = some b ∧ (b = true → ∀ a, H a = none → ts a cls d D σ H) ∧ (b = false → wMix K Wout D r cls d σ H)
  | (c, some i, ts) :: r => fun cls d σ H => ∃ b, PySem.W.exmOne K cls c = some b ∧ (b = true → ∀ a, H a = none → ts a cls d (endsU D i) (σ.set i (some (.ref a))) H) ∧ (b = false → wMix K Wout D r cls d σ H)
inductive MixOk (X : Cx) : List ExceptHandler → List MixH → Prop
  | nil : MixOk X [] []
  | cons {x : Str} {c : Value} {ts : Addr → Value → Option Addr → TS} {b₀ : Stmt} {suite : List Stmt} {np pos' : Pos} {hds : List ExceptHandler} {l : List MixH} (hc : Names X x c)
      (hsu : ∀ (a : Addr) (oe : Obj) (cls : Value) (d : Option Addr) (pn : List (Addr × Obj)), Zc cls d oe → (∃ vs, oe.data = .fields vs) → PSs (X.suite a ((a, oe) :: pn)) (b₀ :: suite) (ts a cls d)) (r : MixOk X hds l) :
      MixOk X (.ExceptHandler (some (.Name x np)) none (b₀ :: suite) pos' :: hds) ((c, none, ts) :: l)
  | named {x n : Str} {c : Value} {i : Nat} {ts : Addr → Value → Option Addr → TS} {b₀ : Stmt} {suite : List Stmt} {np pos' : Pos} {hds : List ExceptHandler} {l : List MixH} (hc : Names X x c) (hi : X.N[i]? = some n) (hln : X.env.kindOf n = some .local)
      (hsu : ∀ (a : Addr) (oe : Obj) (cls : Value) (d : Option Addr) (pn : List (Addr × Obj)), Zc cls d oe → (∃ vs, oe.data = .fields vs) → PSs (X.suite a ((a, oe) :: pn)) (b₀ :: suite) (ts a cls d)) (r : MixOk X hds l) :
      MixOk X (.ExceptHandler (some (.Name x np)) (some n) (b₀ :: suite) pos' :: hds) ((c, some i, ts) :: l)
section
variable {X : Cx} {body : List Stmt} {h₀ : ExceptHandler} {hds : List ExceptHandler} {l : List MixH} {pos : Pos} {tb : WX → TS} {Wout : WX}
end
end L2
namespace DL
open PySem PySem.Spec PyProof.Rows L2
abbrev EndsD.unset (Dd : EndsD) (i : Nat) : EndsD := { nx := fun γ2 => Dd.nx (γ2.set i .any), rt := Dd.rt, bk := fun γ2 => Dd.bk (γ2.set i .any), ct := fun γ2 => Dd.ct (γ2.set i .any) }
abbrev MixD := Addr × (WS ⊕ (Nat × (Addr → List (Str × D) → WS)))
inductive DHmx (X : Xb) : List ExceptHandler → List MixH → List MixD → Prop
  | nil : DHmx X [] [] []
  | cons {x : Str} {C : Addr} {ts : Addr → Value → Option Addr → TS} {w : WS} {b₀ : Stmt} {suite : List Stmt} {np pos' : Pos} {hds : List ExceptHandler} {l : List MixH} {wl : List MixD} (hg : X.mg x = some (.ref C))
      (hsu : ∀ (a : Addr) (oe : Obj) (cls : Value) (d : Option Addr) (pn : List (Addr × Obj)), Zc cls d oe → (∃ vs, oe.data = .fields vs) → DSs (X.sn a oe pn) (b₀ :: suite) (ts a cls d) w) (r : DHmx X hds l wl) (hgl : Gl X x := by rfl) (hdb : (x == ("__debug__" : Str)) = false := by decide) :
      DHmx X (.ExceptHandler (some (.Name x np)) none (b₀ :: suite) pos' :: hds) ((.ref C, none, ts) :: l) ((C, .inl w) :: wl)
  | named {x n : Str} {C : Addr} {i : Nat} {ts : Addr → Value → Option Addr → TS} {wsu : Addr → List (Str × D) → WS} {b₀ : Stmt} {suite : List Stmt} {np pos' : Pos} {hds : List ExceptHandler} {l : List MixH} {wl : List MixD} (hex : PySem.W.exmOne X.K (.ref C) (.ref C) = some true) (hg : X.mg x = some (.ref C))
      (hsu : ∀ (a : Addr) (oe : Obj) (cls : Value) (d : Option Addr) (pn : List (Addr × Obj)) (fs : List (Str × D)), Zc cls d oe → (∃ vs, oe.data = .fields vs) → DSs (X.su a oe pn cls C d fs) (b₀ :: suite) (ts a cls d) (wsu a fs)) (r : DHmx X hds l wl)
      (hi : X.N[i]? = some n := by rfl) (hln : X.env.kindOf n = some .local := by rfl) (hgl : Gl X x := by rfl) (hdb : (x == ("__debug__" : Str)) = false := by decide) :
      DHmx X (.ExceptHandler (some (.Name x np)) (some n) (b₀ :: suite) pos' :: hds) ((.ref C, some i, ts) :: l) ((C, .inr (i, wsu)) :: wl)
def mixD (K : PySem.W.Frag) (dX : Addr → List (Str × D) → List Sl → Prop) (Dd : EndsD) : List MixD → Addr → List (Str × D) → List Sl → Prop
  | [] => dX
  | (C, .inl w) :: r => fun C' fs γ => ∃ b, PySem.W.exmOne K (.ref C') (.ref C) = some b ∧ (b = true → w Dd γ) ∧ (b = false → mixD K dX Dd r C' fs γ)
  | (C, .inr (i, wsu)) :: r => fun C' fs γ => (C' = C ∧ ∀ a, wsu a fs (EndsD.unset Dd i) (γ.set i (.val (.ref a)))) ∨ (PySem.W.exmOne K (.ref C') (.ref C) = some false ∧ mixD K dX Dd r C' fs γ)
def dTryMix (K : PySem.W.Frag) (wl : List MixD) (wb : (Addr → List (Str × D) → List Sl → Prop) → WS) (dX : Addr → List (Str × D) → List Sl → Prop) : WS := fun Dd γ => wb (mixD K dX Dd wl) Dd γ
theorem DHmx.ok {X : Xb} {hds : List ExceptHandler} {l : List MixH} {wl : List MixD} (h : DHmx X hds l wl) : MixOk X.c hds l := by
  induction h with
  | nil => exact .nil
  | cons hg hsu r hgl hdb ih => exact .cons ⟨hgl, hdb, .inl hg⟩ (fun a oe cls d pn hz hd => (hsu a oe cls d pn hz hd).ps) ih
  | named hex hg hsu r hi hln hgl hdb ih => exact .named ⟨hgl, hdb, .inl hg⟩ hi hln (fun a oe cls d pn hz hd => (hsu a oe cls d pn [] hz hd).ps) ih
section
variable {X : Xb} {body : List Stmt} {h₀ : ExceptHandler} {hds : List ExceptHandler} {pos : Pos} {tb : WX → TS} {wb : (Addr → List (Str × D) → List Sl → Prop) → WS} {l : List MixH} {wl : List MixD}
instance {K : PySem.W.Frag} {γ : List Sl} {Dd : EndsD} {wl : List MixD} {wb : (Addr → List (Str × D) → List Sl → Prop) → WS} {dX : Addr → List (Str × D) → List Sl → Prop} : Go (dTryMix K wl wb dX Dd γ) (wb (mixD K dX Dd wl) Dd γ) := ⟨fun z => z⟩
end
end DL
set_option Elab.async false
set_option linter.all false
set_option autoImplicit false
set_option maxRecDepth 100000
set_option maxHeartbeats 4000000
/-! DL49: calls with one keyword given and the other left out. -/
namespace DL
open PySem PySem.Spec PyProof.Rows L2
section
variable {X : Xb} {K : PySem.W.Frag} {f : Addr} {fd : FuncData} {ps ks : List Str} {k n m : Nat} {x : Str} {e : Expr} {es : List Expr} {kws : List Keyword} {t tk : TA} {w wk : WA} {p pos : Pos} {s : SpecX} {gu : List Value → List Value → List Value} {gv : List V → List V → List V} {gd : List D → List D → List D}
def dCallKG (n m : Nat) (gd : List D → List D → List D) (s : SpecX) (dX : Addr → List (Str × D) → List Sl → Prop) (w wk : WA) : WE := fun γ Q => w γ fun ds γ1 => wk γ1 fun es γ2 => ds.length = n ∧ es.length = m ∧ s.S (gd ds es) (fun r => Q r.val γ2) fun C fs => dX C fs γ2
instance {γ : List Sl} {Q : D → List Sl → Prop} {dX : Addr → List (Str × D) → List Sl → Prop} : Go (dCallKG n m gd s dX w wk γ Q) (w γ fun ds γ1 => wk γ1 fun es γ2 => ds.length = n ∧ es.length = m ∧ s.S (gd ds es) (fun r => Q r.val γ2) fun C fs => dX C fs γ2) := ⟨fun z => z⟩
end
/-- bound with the defaults dvs ahead of the keywords given -/
structure KgF (K : PySem.W.Frag) (fd : FuncData) (ps : List Str) (n : Nat) (ks : List Str) (dvs : List V) : Type where
  mv : List Value
  kb : KBn K fd ps n ks (fun us ws => us ++ (mv ++ ws)) (fun vs zs => vs ++ (dvs ++ zs))
/-- bound with the defaults dvs behind the keywords given -/
structure KgB (K : PySem.W.Frag) (fd : FuncData) (ps : List Str) (n : Nat) (ks : List Str) (dvs : List V) : Type where
  mv : List Value
  kb : KBn K fd ps n ks (fun us ws => us ++ (ws ++ mv)) (fun vs zs => vs ++ (zs ++ dvs))
end DL
set_option Elab.async false
set_option linter.all false
set_option autoImplicit false
set_option maxRecDepth 100000
set_option maxHeartbeats 4000000
/-! DL50: insert into a list of one's own. -/
namespace DL
open PySem PySem.Spec PyProof.Rows L2
abbrev rIns : V → List V → Hp → (V → Hp → Prop) → Prop := fun x vs H Q => ∃ (l : Addr) (xs : List V) (i : Int) (y : V), x = .ref l ∧ vs = [.int i, y] ∧ H l = some (.lst xs) ∧ xs.length < sizeLine ∧ 0 ≤ i ∧ i < 2 ^ 63 ∧
    Q .non (upd H l (.lst (xs.take i.toNat ++ [y] ++ xs.drop i.toNat)))
section
variable {X : Xb} {e o : Expr} {te to : TE} {we wo : WE} {pos : Pos}
def dIns (i : Nat) (wo we : WE) : WS := fun Dd γ => (∃ m ds, γ[i]? = some (.own m ds)) ∧ wo γ fun y γ1 => we γ1 fun d γ2 => ∃ n m ds, y = .int n ∧ γ2[i]? = some (.own m ds) ∧ ds.length < sizeLine ∧ (0 ≤ n ∧ n < 2 ^ 63) ∧ (m = true → flat d) ∧ Dd.nx (γ2.set i (.own m (ds.take n.toNat ++ [d] ++ ds.drop n.toNat)))
end
end DL
set_option Elab.async false
set_option linter.all false
set_option autoImplicit false
set_option maxRecDepth 100000
set_option maxHeartbeats 4000000
/-! DL51: calls of defs that may raise and tell a new list. -/
namespace DL
open PySem PySem.Spec PyProof.Rows L2
section
variable {X : Xb} {K : PySem.W.Frag} {f : Addr} {fd : FuncData} {ps : List Str} {k : Nat} {x : Str} {e : Expr} {es : List Expr} {t : TA} {w : WA} {p pos : Pos}
def dCallXF (s : SpecX) (dX : Addr → List (Str × D) → List Sl → Prop) (w : WA) : WF := fun γ Q => w γ fun ds γ1 => s.S ds (fun r => ∃ es, r = .f es ∧ Q es γ1) fun C fs => dX C fs γ1
end
section
variable {s : SpecX} {dX : Addr → List (Str × D) → List Sl → Prop} {w : WA} {γ : List Sl} {Q : List D → List Sl → Prop}
instance : Go (dCallXF s dX w γ Q) (w γ fun ds γ1 => s.S ds (fun r => ∃ es, r = .f es ∧ Q es γ1) (fun C fs => dX C fs γ1)) := ⟨fun z => z⟩
end
end DL
set_option Elab.async false
set_option linter.all false
set_option autoImplicit false
set_option maxRecDepth 100000
set_option maxHeartbeats 4000000
/-! DL52: pop(k) of a list of one's own; sorted of few ints. -/
namespace DL
open PySem PySem.Spec PyProof.Rows L2
section
variable {X : Xb} {e a : Expr} {te ta : TE} {we wa : WE} {pos p : Pos}
/-- xs.pop(e), xs of one's own, no index from behind -/
def dPopO (i : Nat) (we : WE) : WE := fun γ Q => (∃ m ds, γ[i]? = some (.own m ds)) ∧ we γ fun d γ1 => ∃ (n : Int) (m : Bool) (ds : List D) (y : D), d = .int n ∧ γ1[i]? = some (.own m ds) ∧ (0 ≤ n ∧ n < 2 ^ 63) ∧ ds[n.toNat]? = some y ∧ Q y (γ1.set i (.own m (ds.eraseIdx n.toNat)))
/-- sorted(e), e a list of less than 64 ints -/
def dSorted (wa : WE) : WF := fun γ Q => wa γ fun x γ1 => ∃ ns : List Int, x = .lst (ns.map D.int) ∧ ns.length < 64 ∧ ∀ ns' : List Int, ns'.Perm ns → ns'.Pairwise (· ≤ ·) → Q (ns'.map D.int) γ1
end
section
variable {γ : List Sl} {i : Nat} {Q : D → List Sl → Prop} {QF : List D → List Sl → Prop} {we : WE}
instance : GoH2 (dPopO i we γ Q) (∃ m ds, γ[i]? = some (.own m ds) ∧ we γ fun d γ1 => ∃ (n : Int) (m : Bool) (ds : List D) (y : D), d = .int n ∧ γ1[i]? = some (.own m ds) ∧ (0 ≤ n ∧ n < 2 ^ 63) ∧ ds[n.toNat]? = some y ∧ Q y (γ1.set i (.own m (ds.eraseIdx n.toNat)))) := ⟨fun ⟨_, _, g, q⟩ => ⟨⟨_, _, g⟩, q⟩⟩
instance : Go (dSorted we γ QF) (we γ fun x γ1 => ∃ ns : List Int, x = .lst (ns.map D.int) ∧ ns.length < 64 ∧ ∀ ns' : List Int, ns'.Perm ns → ns'.Pairwise (· ≤ ·) → QF (ns'.map D.int) γ1) := ⟨fun z => z⟩
end
end DL
set_option Elab.async false
set_option linter.all false
set_option autoImplicit false
set_option maxRecDepth 100000
set_option maxHeartbeats 4000000
/-! DL53: generators: a for loop in a generator's body, list(g(..)). -/
namespace DL
open PySem PySem.Spec PyProof.Rows L2 GenW
/-! a for loop in a generator's body -/
def tGFor (wi : TI) (g : TG) (tb : TGn) : TGn := fun D ys σ H => wi σ H fun J H1 => ∃ W : Nat → Nat → List V → L2.St → Hp → Prop, (∃ m, W 0 m ys σ H1) ∧ ∀ i m ys σ H, W i m ys σ H →
  (J.stop i H ∧ D.nx ys σ H) ∨ (J.go i H ∧ ∃ N : List V → L2.St → Hp → Prop, (∀ ys' σ' H', N ys' σ' H' → ∃ m', m' < m ∧ W (i + 1) m' ys' σ' H') ∧ ∀ x H', J.yld i H x H' → g x σ H' fun σ2 H2 => tb { D with nx := N, ct := N, bk := D.nx } ys σ2 H2)
section
variable {X : Cx} {tg iter : Expr} {body : List Stmt}
end
end DL

namespace DL
open PySem PySem.Spec PyProof.Rows L2 GenW
/-- a generator def's promise: what it hands out; then it ends -/
structure SpecY where
  S : List D → (List D → Prop) → Prop
  mono : ∀ ds P P', (∀ r, P r → P' r) → S ds P → S ds P'
def spY (K : PySem.W.Frag) (s : SpecY) : SpG := fun vs H Q _ => ∃ S ds, Same S H ∧ DenL S vs ds ∧ s.S ds fun out => ∀ ys S' H', Rel0 K ⟨H, S, [], [], emptyH⟩ S' H' [] [] → DenL S' ys out → Q ys H'

abbrev WY := (List D → List Sl → Prop) → List D → List Sl → Prop
structure SY (X : Xb) (t : TGn) (w : WY) : Prop where
  run : ∀ B S0 S H σ γ (nx : List D → List Sl → Prop) (D : GEnds) ys out, Rel X B S H σ γ → Same S0 S → DenL S ys out → (∀ S' H' σ' γ' ys' out', Same S0 S' → Rel X B S' H' σ' γ' → DenL S' ys' out' → nx out' γ' → D.nx ys' σ' H') → w nx out γ → t D ys σ H
structure DY (X : Xb) (st : Stmt) (t : TGn) (w : WY) : Prop where
  gs : GS X st t
  sy : SY X t w
structure DYs (X : Xb) (st : List Stmt) (t : TGn) (w : WY) : Prop where
  gs : GSs X st t
  sy : SY X t w
section
variable {X : Xb} {st : Stmt} {rest : List Stmt} {e : Expr} {te : TE} {we : WE} {pos yp : Pos}
def yPlain (w : WS) : WY := fun nx out γ => w { nx := fun γ' => nx out γ', rt := fun _ _ => False } γ
def yYield (we : WE) : WY := fun nx out γ => out.length < sizeLine ∧ we γ fun d γ' => nx (out ++ [d]) γ'
def yNil : WY := fun nx out γ => nx out γ
def ySeq (w w' : WY) : WY := fun nx out γ => w (w' nx) out γ
def yFor (wi : WA) (wg : WG) (wb : WY) : WY := fun nx out γ => wi γ fun ds γ1 => ∃ I : Nat → List D → List Sl → Prop, I 0 out γ1 ∧ (∀ i d out γ, ds[i]? = some d → I i out γ → wg d γ fun γ2 => wb (I (i + 1)) out γ2) ∧ ∀ out γ, I ds.length out γ → nx out γ
end
/-! ### the def -/
section
variable {P : Program} {w : World} {K : PySem.W.Frag} {mg : Str → Option Value} {base : Heap} {x qual : Str} {st : Stmt} {f : Addr} {fd : FuncData} {N ps : List Str} {k : Nat}
end
/-! ### list(g(..)) -/
def tCallGN (n m : Nat) (sp : SpG) (gV : List V → List V → List V) (E : XK) (t tk : TA) : TGen := fun σ H cont => t σ H fun vs H1 => tk σ H1 fun zs H2 => vs.length = n ∧ zs.length = m ∧ sp (gV vs zs) H2 cont E
section
variable {X : Cx} {k n : Nat} {f : Addr} {fd : FuncData} {ps ks : List Str} {sp : SpG} {E : XK} {x : Str} {p pos : Pos} {e : Expr} {es : List Expr} {kws : List Keyword} {t tk : TA} {g : List Value → List Value → List Value} {gV : List V → List V → List V}
end
section
variable {X : Xb} {K : PySem.W.Frag} {f : Addr} {fd : FuncData} {ps ks : List Str} {k n : Nat} {x nm : Str} {e : Expr} {es : List Expr} {t tk : TA} {w wk : WA} {p p2 pos pos2 : Pos} {kws : List Keyword} {s : SpecY}
def dListG (n m : Nat) (s : SpecY) (w wk : WA) : WF := fun γ Q => w γ fun ds γ1 => wk γ1 fun es γ2 => ds.length = n ∧ es.length = m ∧ s.S (ds ++ es) fun out => Q out γ2
end
end DL
namespace DL
open PySem PySem.Spec PyProof.Rows L2
section
variable {nx : List D → List Sl → Prop} {out : List D} {γ : List Sl} {w w' : WY} {ws : WS} {we : WE} {wi : WA} {wg : WG} {wb : WY}
instance : Go (ySeq w w' nx out γ) (w (w' nx) out γ) := ⟨fun z => z⟩
instance : Go (yPlain ws nx out γ) (ws { nx := fun γ' => nx out γ', rt := fun _ _ => False } γ) := ⟨fun z => z⟩
instance : Go (yNil nx out γ) (nx out γ) := ⟨fun z => z⟩
instance : Go (yFor wi wg wb nx out γ) (wi γ fun ds γ1 => ∃ I : Nat → List D → List Sl → Prop, I 0 out γ1 ∧ (∀ i d out γ, ds[i]? = some d → I i out γ → wg d γ fun γ2 => wb (I (i + 1)) out γ2) ∧ ∀ out γ, I ds.length out γ → nx out γ) := ⟨fun z => z⟩
end
section
variable {n m : Nat} {s : SpecY} {w wk : WA} {γ : List Sl} {Q : List D → List Sl → Prop}
instance : Go (dListG n m s w wk γ Q) (w γ fun ds γ1 => wk γ1 fun es γ2 => ds.length = n ∧ es.length = m ∧ s.S (ds ++ es) fun out => Q out γ2) := ⟨fun z => z⟩
end
end DL
set_option Elab.async false
set_option linter.all false
set_option autoImplicit false
set_option maxRecDepth 100000
set_option maxHeartbeats 4000000
/-! DL54: boxes: a list lent as a value, walks over lists in boxes, clear, instances frozen; methods and constructors with promises about boxes. -/
namespace DL
open PySem PySem.Spec PyProof.Rows L2
theorem DenL.flats {S S' : Hp} {xs : List V} {ds : List D} (h : DenL S xs ds) (f : flats ds) : DenL S' xs ds :=
  ⟨h.1, fun i x d h1 h2 => (h.2 i x d h1 h2).flat (f d (List.mem_of_getElem? h2))⟩
section
variable {X : Xb} {K : PySem.W.Frag} {B : Bs} {S H : Hp} {σ : L2.St} {γ : List Sl} {i h : Nat} {es : List D} {q : Addr} {m : Bool} {L : Bxs}
end
section
variable {X : Xb} {e : Expr} {te : TE} {we : WE} {wf : WF} {tt : TT} {wt : WT} {sts : List Stmt} {t : TS} {w : WS} {pos : Pos}
def LendsR (γ : List Sl) (i h : Nat) (P : List Sl → Prop) : Prop := ∃ q es m L, γ[i]? = some (.val (.ref q)) ∧ γ[h]? = some (.hp m L) ∧ L q = some (.lst es) ∧ P ((lentS γ).set i (.val (.lst es)))
def dLendRT (i h : Nat) (wt : WT) : WT := fun γ Q => LendsR γ i h fun γ1 => wt γ1 fun b _ => Q b γ
def dLendRE (i h : Nat) (we : WE) : WE := fun γ Q => LendsR γ i h fun γ1 => we γ1 fun d _ => flat d ∧ Q d γ
def dLendRF (i h : Nat) (wf : WF) : WF := fun γ Q => LendsR γ i h fun γ1 => wf γ1 fun ds _ => flats ds ∧ Q ds γ
/-! ### a walk over a list in a box -/
variable {tg iter a b : Expr} {body : List Stmt} {g : TG} {wg : WG} {tb : TS} {wb : WS} {p : Pos}
def OnBox (h : Nat) (q : Addr) (es : List D) (γ : List Sl) : Prop := ∃ m L, γ[h]? = some (.hp m L) ∧ L q = some (.lst es)
def dForB (h : Nat) (wi : WE) (wg : WG) (wb : WS) : WS := fun Dd γ => wi γ fun d γ1 => ∃ q es, d = .ref q ∧ OnBox h q es γ1 ∧ ∃ I : Nat → List Sl → Prop, I 0 γ1 ∧
  (∀ i d γ, es[i]? = some d → I i γ → OnBox h q es γ ∧ wg d γ fun γ2 => wb { Dd with nx := I (i + 1), ct := I (i + 1), bk := Dd.nx } γ2) ∧ ∀ γ, I es.length γ → OnBox h q es γ ∧ Dd.nx γ
/-- the same with enumerate -/
def dForEB (h : Nat) (w : WA) (wg : WG) (wb : WS) : WS := fun Dd γ => w γ fun ds γ1 => ∃ q es, ds = [.ref q] ∧ OnBox h q es γ1 ∧ ∃ I : Nat → List Sl → Prop, I 0 γ1 ∧
  (∀ (i : Nat) d γ, es[i]? = some d → I i γ → OnBox h q es γ ∧ wg (.tup [.int (i : Nat), d]) γ fun γ2 => wb { Dd with nx := I (i + 1), ct := I (i + 1), bk := Dd.nx } γ2) ∧ ∀ γ, I es.length γ → OnBox h q es γ ∧ Dd.nx γ
/-! ### clear; an instance frozen -/
def dClrB (h : Nat) (wo : WE) : WS := fun Dd γ => wo γ fun x γ1 => ∃ m L q ds, x = .ref q ∧ γ1[h]? = some (.hp m L) ∧ L q = some (.lst ds) ∧ Dd.nx (γ1.set h (.hp m (updB L q (.lst []))))
/-- an instance in a box of one's own becomes a value -/
def dFrzO (h : Nat) (wa : WE) : WE := fun γ Q => wa γ fun x γ1 => ∃ L q C fs, x = .ref q ∧ γ1[h]? = some (.hp false L) ∧ L q = some (.ins C fs) ∧ Q (.obj C fs) (γ1.set h (.hp false (delB L q)))
end
end DL

/-! ### methods of values, constructors: promises about boxes -/
namespace DL
open PySem PySem.Spec PyProof.Rows L2
section
variable {X : Xb} {K : PySem.W.Frag} {C f : Addr} {fd : FuncData} {ps : List Str} {k : Nat} {x m : Str} {e o : Expr} {es : List Expr} {t : TA} {w : WA} {ta : TE} {wa : WE} {p pos apos : Pos} {s : SpecB} {pl : Sem Bool}
/-- o.m(), o an instance that is a value -/
def dMethV (h : Nat) (C : Addr) (m : Str) (s : SpecB) (wa : WE) (w : WA) : WE := fun γ Q => wa γ fun x γ1 => ∃ fs, x = .obj C fs ∧ fs.lookup m = none ∧ w γ1 fun ds γ2 => ∃ mm L, γ2[h]? = some (.hp mm L) ∧ s.S (x :: ds) L fun d L' => Q d (γ2.set h (.hp mm L'))
end
/-- C(e, ..) whose __init__ may raise, also in a try -/
def tMakeS (C : Addr) (sp : Sp) (E : L2.St → XK) (t : TA) : TE := fun σ H Q => tMake C sp [] (E σ) t σ H Q
section
variable {X : Xb} {K : PySem.W.Frag} {C f : Addr} {fd : FuncData} {ps : List Str} {k : Nat} {x : Str} {e : Expr} {es : List Expr} {t : TA} {w : WA} {p pos : Pos} {s : SpecBX}
def dMakeBX (h : Nat) (C : Addr) (s : SpecBX) (dX : Addr → List (Str × D) → List Sl → Prop) (w : WA) : WE := fun γ Q => w γ fun ds γ1 => ∃ m L, γ1[h]? = some (.hp m L) ∧ ∀ p, L p = none → s.S (.ref p :: ds) (updB L p (.ins C [])) (fun d L' => d = .non ∧ Q (.ref p) (γ1.set h (.hp m L'))) fun C fs => ∀ L', dX C fs (γ1.set h (.hp m L'))
end
section
variable {K : PySem.W.Frag} {γ : List Sl} {i h : Nat} {es : List D} {q : Addr} {m : Bool} {L : Bxs} {we wa : WE} {wf : WF} {wt : WT} {wb w : WS} {wA : WA} {wg : WG} {Dd : EndsD} {Q : D → List Sl → Prop} {QF : List D → List Sl → Prop} {QT : Bool → List Sl → Prop} {C : Addr} {mm : Str} {sB : SpecB} {sX : SpecBX} {dX : Addr → List (Str × D) → List Sl → Prop} {P : List Sl → Prop}
instance : Go (dLendRT i h wt γ QT) (LendsR γ i h fun γ1 => wt γ1 fun b _ => QT b γ) := ⟨fun z => z⟩
instance : Go (dLendRE i h we γ Q) (LendsR γ i h fun γ1 => we γ1 fun d _ => flat d ∧ Q d γ) := ⟨fun z => z⟩
instance : Go (dLendRF i h wf γ QF) (LendsR γ i h fun γ1 => wf γ1 fun ds _ => flats ds ∧ QF ds γ) := ⟨fun z => z⟩
instance : Go (dForB h we wg wb Dd γ) (we γ fun d γ1 => ∃ q es, d = .ref q ∧ OnBox h q es γ1 ∧ ∃ I : Nat → List Sl → Prop, I 0 γ1 ∧ (∀ i d γ, es[i]? = some d → I i γ → OnBox h q es γ ∧ wg d γ fun γ2 => wb { Dd with nx := I (i + 1), ct := I (i + 1), bk := Dd.nx } γ2) ∧ ∀ γ, I es.length γ → OnBox h q es γ ∧ Dd.nx γ) := ⟨fun z => z⟩
instance : Go (dForEB h wA wg wb Dd γ) (wA γ fun ds γ1 => ∃ q es, ds = [.ref q] ∧ OnBox h q es γ1 ∧ ∃ I : Nat → List Sl → Prop, I 0 γ1 ∧ (∀ (i : Nat) d γ, es[i]? = some d → I i γ → OnBox h q es γ ∧ wg (.tup [.int (i : Nat), d]) γ fun γ2 => wb { Dd with nx := I (i + 1), ct := I (i + 1), bk := Dd.nx } γ2) ∧ ∀ γ, I es.length γ → OnBox h q es γ ∧ Dd.nx γ) := ⟨fun z => z⟩
instance : Go (dClrB h we Dd γ) (we γ fun x γ1 => ∃ m L q ds, x = .ref q ∧ γ1[h]? = some (.hp m L) ∧ L q = some (.lst ds) ∧ Dd.nx (γ1.set h (.hp m (updB L q (.lst []))))) := ⟨fun z => z⟩
instance : Go (dFrzO h wa γ Q) (wa γ fun x γ1 => ∃ L q C fs, x = .ref q ∧ γ1[h]? = some (.hp false L) ∧ L q = some (.ins C fs) ∧ Q (.obj C fs) (γ1.set h (.hp false (delB L q)))) := ⟨fun z => z⟩
instance : Go (dMethV h C mm sB wa wA γ Q) (wa γ fun x γ1 => ∃ fs, x = .obj C fs ∧ fs.lookup mm = none ∧ wA γ1 fun ds γ2 => ∃ m L, γ2[h]? = some (.hp m L) ∧ sB.S (x :: ds) L fun d L' => Q d (γ2.set h (.hp m L'))) := ⟨fun z => z⟩
instance : Go (dMakeBX h C sX dX wA γ Q) (wA γ fun ds γ1 => ∃ m L, γ1[h]? = some (.hp m L) ∧ ∀ p, L p = none → sX.S (.ref p :: ds) (updB L p (.ins C [])) (fun d L' => d = .non ∧ Q (.ref p) (γ1.set h (.hp m L'))) fun C fs => ∀ L', dX C fs (γ1.set h (.hp m L'))) := ⟨fun z => z⟩
end
end DL
set_option Elab.async false
set_option linter.all false
set_option autoImplicit false
set_option maxRecDepth 100000
set_option maxHeartbeats 4000000
/-! DL55: isinstance of a caught exception. -/
namespace DL
open PySem PySem.Spec PyProof.Rows L2 He
theorem dss0_initB {X : Xb} (i : Nat) {sts : List Stmt} {t : TS} {w : WS} (h : DSs0 X sts t w) : DSs0 X sts t (dInitB i w) := ⟨h.ps, ⟨fun B S0 S H σ γ Dd D f R e L q => h.ss.run B S0 S H σ _ Dd D f ⟨R.r.initB, R.x⟩ e L q⟩⟩
section
variable {X : Xb}
end
/-- what isinstance asks of an own exception class -/
structure XisC (K : PySem.W.Frag) (C : Addr) : Prop where
  cl : (PySem.W.clsIn K C).isSome = true
  ga : PySem.W.findIn K (.ref C) "__getattribute__" = some (some (.builtin "BaseException.__getattribute__"))
  gg : PySem.W.findIn K (.ref C) "__getattr__" = some none
  sb : PySem.W.subIn K (.ref C) (.type "BaseException") = some true
  ca : PySem.W.findIn K (.ref C) "__class__" = some (some (.builtin "object.__class__"))
  gt : PySem.W.specialIn K (.builtin "object.__class__") "__get__" = some (some (.builtin "getset_descriptor.__get__"))
  tk : PySem.W.takesIn K (.builtin "object.__class__") = some true
  ob : PySem.W.mroIn K C (.type "object") = some true
theorem xis_ok {K : PySem.W.Frag} {x : Str} (c : xisB x K = true) : XisC K (ga K x) := by
  unfold xisB at c
  simp only [Bool.and_eq_true, decide_eq_true_eq] at c
  obtain ⟨⟨⟨⟨⟨⟨⟨h1, h2⟩, h3⟩, h4⟩, h5⟩, h6⟩, h7⟩, h8⟩ := c
  exact ⟨h1, h2, h3, h4, h5, h6, h7, h8⟩
def rIsX (K : PySem.W.Frag) (cls : Value) (C a : Addr) (d : Option Addr) : List V → Hp → VK → Prop := fun xs H Q => ∃ (T : Addr) (b : Bool), xs = [.ref a, .ref T] ∧ cls = .ref C ∧ (d = none ∨ ∃ dd ws, d = some dd ∧ H dd = some (.xd ws)) ∧ PySem.W.kitOne K (.ref C) (.ref T) = some b ∧ Q (.bl b) H
section
variable {X : Xb} {C T : Addr} {i : Nat} {x y : Str} {p px py pos : Pos}
/-- isinstance(e, T), e the caught exception at slot i -/
def dIsX (K : PySem.W.Frag) (C T a : Addr) (i : Nat) : WE := fun γ Q => γ[i]? = some (.val (.ref a)) ∧ ∃ b, PySem.W.kitOne K (.ref C) (.ref T) = some b ∧ Q (.bl b) γ
end
section
variable {K : PySem.W.Frag} {γ : List Sl} {C T a : Addr} {i : Nat} {Q : D → List Sl → Prop}
instance : Go (dIsX K C T a i γ Q) (γ[i]? = some (.val (.ref a)) ∧ ∃ b, PySem.W.kitOne K (.ref C) (.ref T) = some b ∧ Q (.bl b) γ) := ⟨fun z => z⟩
end
end DL
set_option Elab.async false
set_option linter.all false
set_option autoImplicit false
set_option maxRecDepth 100000
set_option maxHeartbeats 4000000
/-! DL56: o[k] of an instance of an own class with __getitem__ (which may raise, and may tell boxes). -/
namespace DL
open PySem PySem.Spec PyProof.Rows L2
section
variable {X : Xb} {pins : List (Addr × Obj)} {σ : L2.St} {H : Hp} {s : Shared} {A : Around} {CX : CXT} {n : Nat} {f C : Addr} {fd : FuncData} {ps : List Str} {sp : Sp} {E : XK} {Q : VK}
end
def tIxS (C : Addr) (sp : Sp) (E : L2.St → XK) (ta tb : TE) : TE := fun σ H Q => ta σ H fun x H1 => tb σ H1 fun y H2 => ∃ a dx fs, x = .ref a ∧ H2 a = some (.ins C dx fs) ∧ sp [.ref a, y] H2 Q (E σ)
section
variable {X : Xb} {K : PySem.W.Frag} {C f : Addr} {fd : FuncData} {ps : List Str} {k : Nat} {a b : Expr} {ta tb : TE} {wa wb : WE} {pos : Pos} {s : SpecBX}
/-- o[k], o an instance that is a value -/
def dIxBX (h : Nat) (C : Addr) (s : SpecBX) (dX : Addr → List (Str × D) → List Sl → Prop) (wa wb : WE) : WE := fun γ Q => wa γ fun x γ1 => wb γ1 fun y γ2 => ∃ fs m L, x = .obj C fs ∧ γ2[h]? = some (.hp m L) ∧ s.S [x, y] L (fun d L' => Q d (γ2.set h (.hp m L'))) fun C' fs' => ∀ L', dX C' fs' (γ2.set h (.hp m L'))
end
section
variable {γ : List Sl} {h : Nat} {wa wb : WE} {Q : D → List Sl → Prop} {C : Addr} {sX : SpecBX} {dX : Addr → List (Str × D) → List Sl → Prop}
instance : Go (dIxBX h C sX dX wa wb γ Q) (wa γ fun x γ1 => wb γ1 fun y γ2 => ∃ fs m L, x = .obj C fs ∧ γ2[h]? = some (.hp m L) ∧ sX.S [x, y] L (fun d L' => Q d (γ2.set h (.hp m L'))) fun C' fs' => ∀ L', dX C' fs' (γ2.set h (.hp m L'))) := ⟨fun z => z⟩
end
/-! ### tuples with a box, or with none -/
section
variable {X : Xb} {e : Expr} {te : TE} {we : WE} {tt : TT} {wt : WT}
def dLendBoT (i h : Nat) (wt : WT) : WT := fun γ Q => LendsB γ i h (fun γ1 => wt γ1 fun b _ => Q b γ) ∨ ((∃ ds, γ[i]? = some (.val (.tup ds))) ∧ wt γ Q)
/-- a tuple with a box of one's own becomes a value -/
def dFrzTE (h : Nat) (wa : WE) : WE := fun γ Q => wa γ fun x γ1 => (∃ pre q post es L, x = .tup (pre ++ .ref q :: post) ∧ γ1[h]? = some (.hp false L) ∧ L q = some (.lst es) ∧ Q (.tup (pre ++ .lst es :: post)) (γ1.set h (.hp false (delB L q)))) ∨ Q x γ1
end
section
variable {γ : List Sl} {i h : Nat} {we : WE} {wt : WT} {Q : D → List Sl → Prop} {QT : Bool → List Sl → Prop}
instance : Go (dLendBoT i h wt γ QT) (LendsB γ i h (fun γ1 => wt γ1 fun b _ => QT b γ) ∨ ((∃ ds, γ[i]? = some (.val (.tup ds))) ∧ wt γ QT)) := ⟨fun z => z⟩
instance : Go (dFrzTE h we γ Q) (we γ fun x γ1 => (∃ pre q post es L, x = .tup (pre ++ .ref q :: post) ∧ γ1[h]? = some (.hp false L) ∧ L q = some (.lst es) ∧ Q (.tup (pre ++ .lst es :: post)) (γ1.set h (.hp false (delB L q)))) ∨ Q x γ1) := ⟨fun z => z⟩
end
/-! ### x in l, nested data -/
def fInD (x y : D) (Q : D → Prop) : Prop := ∃ ds, y = .lst ds ∧ PlD x ∧ PlD y ∧ Q (.bl (ds.any fun z => eqD z x))
section
variable {X : Xb} {a b : Expr} {ta tb : TE} {wa wb : WE} {pos : Pos} {k : Nat}
end
/-! ### x is not False, x of any kind -/
def rNotBx : R2 := fun x y H Q => ∃ b : Bool, y = .bl b ∧ Q (.bl (!decide (x = .bl b))) H
def isBlD (x : D) (b : Bool) : Bool := match x with
  | .bl a => decide (a = b)
  | _ => false
def fNotBx (x y : D) (Q : D → Prop) : Prop := ∃ b, y = .bl b ∧ Q (.bl (!isBlD x b))
section
variable {X : Xb} {a b : Expr} {ta tb : TE} {wa wb : WE} {pos : Pos}
end
end DL
set_option Elab.async false
set_option linter.all false
set_option autoImplicit false
set_option maxRecDepth 100000
set_option maxHeartbeats 4000000
/-! DL57: dicts with text keys in boxes. -/
namespace DL
open PySem PySem.Spec PyProof.Rows L2
abbrev kvT (vs : List (Str × V)) : List (Key × V) := vs.map fun p => (.inr p.1, p.2)
/-- an item set at a key that is there -/
def putA (f : Str) (d : D) (fs : List (Str × D)) : List (Str × D) := fs.map fun p => if p.1 = f then (f, d) else p
theorem DenF.putA {S : Hp} {f : Str} {v : V} {d : D} : ∀ {vs : List (Str × V)} {fs : List (Str × D)}, DenF S vs fs → Den S v d → DenF S (vs.map fun p => if p.1 = f then (f, v) else p) (DL.putA f d fs)
  | [], [], h, _ => h
  | [], _ :: _, h, _ => by have := h.1; simp at this
  | _ :: _, [], h, _ => by have := h.1; simp at this
  | (g, x) :: vs, (k, y) :: fs, t, h => by
    obtain ⟨h1, h2⟩ := t.head
    have h1 : g = k := h1
    subst h1
    unfold DL.putA
    rw [List.map_cons, List.map_cons]
    by_cases q : g = f
    · rw [if_pos q, if_pos q]; exact .cons rfl h (t.tail.putA h)
    · rw [if_neg q, if_neg q]; exact .cons rfl h2 (t.tail.putA h)
section
variable {X : Xb} {B : Bs} {S S' F H H' : Hp} {σ : L2.St} {γ : List Sl} {p : Addr} {o : HO} {i : Nat} {m : Bool} {L L' : Bxs} {b b0 : Bx}
end
section
variable {X : Xb} {K : PySem.W.Frag} {a b c e o : Expr} {es : List Expr} {ta tb tc te to tk : TE} {wa wb wc we wo wk : WE} {t : TA} {w : WA} {pos p p1 p2 tpos : Pos} {f : Str} {kk : Nat}
/-- d["k"], d a dict in a box -/
def dDgB (h : Nat) (wa wb : WE) : WE := fun γ Q => wa γ fun x γ1 => wb γ1 fun y γ2 => ∃ m L q fs f d, x = .ref q ∧ y = .str f ∧ γ2[h]? = some (.hp m L) ∧ L q = some (.dct fs) ∧ fs.lookup f = some d ∧ Q d γ2
/-- d["k"] = e, d a dict in a box that has the key -/
def dDpB (h : Nat) (we wo wk : WE) : WS := fun Dd γ => we γ fun d γ1 => wo γ1 fun x γ2 => wk γ2 fun y γ3 => ∃ m L q fs f, x = .ref q ∧ y = .str f ∧ γ3[h]? = some (.hp m L) ∧ L q = some (.dct fs) ∧ (fs.lookup f).isSome = true ∧ fs.length < sizeLine ∧ Dd.nx (γ3.set h (.hp m (updB L q (.dct (putA f d fs)))))
/-! {k: v, ..}, put into a box -/
def DenPs (S : Hp) : List (V × V) → List (D × D) → Prop
  | [], [] => True
  | x :: r, y :: s => Den S x.1 y.1 ∧ Den S x.2 y.2 ∧ DenPs S r s
  | _, _ => False
theorem DenPs.mono {S S' : Hp} (e : Same S S') : ∀ {vs : List (V × V)} {ps : List (D × D)}, DenPs S vs ps → DenPs S' vs ps
  | [], [], _ => trivial
  | _ :: _, _ :: _, h => ⟨h.1.mono e, h.2.1.mono e, h.2.2.mono e⟩
  | [], _ :: _, h => h.elim
  | _ :: _, [], h => h.elim
theorem DenPs.split {S : Hp} : ∀ {vs : List (V × V)} {fs : List (Str × D)}, DenPs S vs (fs.map fun p => (.str p.1, p.2)) → ∃ ws : List (Str × V), vs = ws.map (fun p => (V.str p.1, p.2)) ∧ DenF S ws fs
  | [], [], _ => ⟨[], rfl, .nil⟩
  | [], _ :: _, h => h.elim
  | _ :: _, [], h => h.elim
  | (x, y) :: vs, (f, d) :: fs, h => by
    obtain ⟨h1, h2, h3⟩ := h
    obtain ⟨ws, e, k⟩ := h3.split
    have h1 : Den S x (.str f) := h1
    cases h1
    exact ⟨(f, y) :: ws, by rw [e]; rfl, .cons rfl h2 k⟩
abbrev WPs := List Sl → (List (D × D) → List Sl → Prop) → Prop
structure DPs (X : Xb) (pos : Pos) (keys : List (Option Expr)) (values : List Expr) (trs : List (TE × TE)) (w : WPs) : Prop where
  pp : PPs X pos keys values trs
  mono : ∀ γ P P', (∀ ps γ, P ps γ → P' ps γ) → w γ P → w γ P'
  run : ∀ B S H σ γ (Q : List (V × V) → Hp → Prop), Rel X B S H σ γ → w γ (fun ps γ' => ∀ vs S' H', Rel X B S' H' σ γ' → Same S S' → DenPs S' vs ps → Q vs H') → tPairs trs σ H Q
def dPs0 : WPs := fun γ Q => Q [] γ
def dPsC (wa wb : WE) (w : WPs) : WPs := fun γ Q => wa γ fun x γ1 => wb γ1 fun y γ2 => w γ2 fun ps γ3 => Q ((x, y) :: ps) γ3
def dDisp (h : Nat) (w : WPs) : WE := fun γ Q => w γ fun ps γ1 => ∃ m L fs, ps = fs.map (fun p : Str × D => (D.str p.1, p.2)) ∧ (fs.map (·.1)).Nodup ∧ fs.length ≤ 15 ∧ γ1[h]? = some (.hp m L) ∧ ∀ p, L p = none → Q (.ref p) (γ1.set h (.hp m (updB L p (.dct fs))))
theorem DenF.names {S : Hp} : ∀ {vs : List (Str × V)} {fs : List (Str × D)}, DenF S vs fs → vs.map (·.1) = fs.map (·.1)
  | [], [], _ => rfl
  | [], _ :: _, h => by have := h.1; simp at this
  | _ :: _, [], h => by have := h.1; simp at this
  | _ :: _, _ :: _, h => by rw [List.map_cons, List.map_cons, h.head.1, h.tail.names]
end
end DL
namespace DL
open PySem PySem.Spec PyProof.Rows L2
section
variable {K : PySem.W.Frag} {γ : List Sl} {h : Nat} {m mm : Bool} {L : Bxs} {q : Addr} {fs : List (Str × D)} {f : Str} {d : D} {wa wb we wo wk : WE} {wp : WPs} {Q : D → List Sl → Prop} {QP : List (D × D) → List Sl → Prop} {Dd : EndsD}
instance : Go (dDgB h wa wb γ Q) (wa γ fun x γ1 => wb γ1 fun y γ2 => ∃ m L q fs f d, x = .ref q ∧ y = .str f ∧ γ2[h]? = some (.hp m L) ∧ L q = some (.dct fs) ∧ fs.lookup f = some d ∧ Q d γ2) := ⟨fun z => z⟩
instance : Go (dDpB h we wo wk Dd γ) (we γ fun d γ1 => wo γ1 fun x γ2 => wk γ2 fun y γ3 => ∃ m L q fs f, x = .ref q ∧ y = .str f ∧ γ3[h]? = some (.hp m L) ∧ L q = some (.dct fs) ∧ (fs.lookup f).isSome = true ∧ fs.length < sizeLine ∧ Dd.nx (γ3.set h (.hp m (updB L q (.dct (putA f d fs)))))) := ⟨fun z => z⟩
instance : Go (dDisp h wp γ Q) (wp γ fun ps γ1 => ∃ m L fs, ps = fs.map (fun p : Str × D => (D.str p.1, p.2)) ∧ (fs.map (·.1)).Nodup ∧ fs.length ≤ 15 ∧ γ1[h]? = some (.hp m L) ∧ ∀ p, L p = none → Q (.ref p) (γ1.set h (.hp m (updB L p (.dct fs))))) := ⟨fun z => z⟩
instance : Go (dPs0 γ QP) (QP [] γ) := ⟨fun z => z⟩
instance : Go (dPsC wa wb wp γ QP) (wa γ fun x γ1 => wb γ1 fun y γ2 => wp γ2 fun ps γ3 => QP ((x, y) :: ps) γ3) := ⟨fun z => z⟩
end
end DL
set_option Elab.async false
set_option linter.all false
set_option autoImplicit false
set_option maxRecDepth 100000
set_option maxHeartbeats 4000000
/-! DL58: defs of the script with further values, with boxes; boxes within values and boxes become values. -/
namespace DL
open PySem PySem.Spec PyProof.Rows L2
mutual
/-- the box at q told as a list, wherever it stands -/
def subD (q : Addr) (es : List D) : D → D
  | .ref p => if p = q then .lst es else .ref p
  | .lst ds => .lst (subL q es ds)
  | .tup ds => .tup (subL q es ds)
  | .non => .non
  | .bl b => .bl b
  | .int i => .int i
  | .str s => .str s
  | .obj C fs => .obj C fs
  | .emp => .emp
def subL (q : Addr) (es : List D) : List D → List D
  | [] => []
  | d :: r => subD q es d :: subL q es r
end
section
variable {S S' : Hp} {q : Addr} {es : List D} (e : Same S S') (h : Den S' (.ref q) (.lst es))
include e h
mutual
theorem Den.sub : ∀ (d : D) (v : V), Den S v d → Den S' v (subD q es d)
  | .ref p, v, k => by
    obtain rfl := k.ref_inv
    unfold subD
    by_cases z : p = q
    · rw [if_pos z, z]; exact h
    · rw [if_neg z]; exact .ref p
  | .lst ds, v, k => by
    obtain ⟨a, xs, rfl, h1, h2⟩ := k.lst_inv
    unfold subD
    exact .ofL (e _ _ h1) (DenL.sub ds xs h2)
  | .tup ds, v, k => by
    obtain ⟨a, xs, rfl, h1, h2⟩ := k.tup_inv
    unfold subD
    exact .ofT (e _ _ h1) (DenL.sub ds xs h2)
  | .non, v, k => by unfold subD; exact k.mono e
  | .bl b, v, k => by unfold subD; exact k.mono e
  | .int i, v, k => by unfold subD; exact k.mono e
  | .str s, v, k => by unfold subD; exact k.mono e
  | .obj C fs, v, k => by unfold subD; exact k.mono e
  | .emp, v, k => by unfold subD; exact k.mono e
theorem DenL.sub : ∀ (ds : List D) (vs : List V), DenL S vs ds → DenL S' vs (subL q es ds)
  | [], vs, k => by
    obtain rfl : vs = [] := List.length_eq_zero_iff.mp k.1
    unfold subL
    exact .nil
  | d :: r, [], k => by have := k.1; simp at this
  | d :: r, v :: vs, k => by
    unfold subL
    exact .cons (Den.sub d v (k.2 0 v d rfl rfl)) (DenL.sub r vs ⟨by have := k.1; simpa using this, fun i x y h1 h2 => k.2 (i + 1) x y (by simpa using h1) (by simpa using h2)⟩)
end
end
section
variable {X : Xb} {sts : List Stmt} {t : TS} {w : WS}
/-- from here on the box q in slot i's value is a list, its value -/
def dFrzS (i h : Nat) (w : WS) : WS := fun Dd γ => ∃ d q es L, γ[i]? = some (.val d) ∧ γ[h]? = some (.hp false L) ∧ L q = some (.lst es) ∧ w Dd ((γ.set h (.hp false (delB L q))).set i (.val (subD q es d)))
/-- from here on the box q in the box p is a list, its value -/
def dFrzI (h : Nat) (w : WS) : WS := fun Dd γ => ∃ p q ds es L, γ[h]? = some (.hp false L) ∧ L p = some (.lst ds) ∧ L q = some (.lst es) ∧ p ≠ q ∧ w Dd (γ.set h (.hp false (updB (delB L q) p (.lst (subL q es ds)))))
end
section
variable {γ : List Sl} {i h : Nat} {d : D} {ds es : List D} {p q : Addr} {L : Bxs} {w : WS} {Dd : EndsD}
end
/-! ### defs of the script and of values -/
structure SpecVS where
  S : List Int → List D → (Rv → Prop) → Prop
  mono : ∀ ns ds P P', (∀ r, P r → P' r) → S ns ds P → S ns ds P'
def SpecVS.fn {α : Type} (args : α → List D) (pre : α → List Int → Prop) (post : α → List Int → Rv → Prop) : SpecVS := ⟨fun ns ds Q => ∃ a, ds = args a ∧ pre a ns ∧ ∀ r, post a ns r → Q r, fun ns ds P P' k ⟨a, e, h, q⟩ => ⟨a, e, h, fun r z => k _ (q r z)⟩⟩
def spVS (K : PySem.W.Frag) (s : SpecVS) : Sp := fun vs H Q _ => ∃ S a ns vs' ds, vs = .ref a :: vs' ∧ Same S H ∧ SqL K S a (ns.map V.int) ∧ DenL S vs' ds ∧ s.S ns ds fun r => ∀ v S' H', Rel0 K ⟨H, S, [], [], emptyH⟩ S' H' [] [] → RvOk ⟨H, S, [], [], emptyH⟩ S' H' v r → Q v H'
structure SpecBS where
  S : List Int → List D → Bxs → (D → Bxs → Prop) → Prop
  mono : ∀ ns ds L P P', (∀ d L', P d L' → P' d L') → S ns ds L P → S ns ds L P'
def SpecBS.fn {α : Type} (args : α → List D) (pre : α → List Int → Bxs → Prop) (post : α → List Int → D → Bxs → Bxs → Prop) : SpecBS := ⟨fun ns ds L Q => ∃ a, ds = args a ∧ pre a ns L ∧ ∀ d L', post a ns d L L' → Q d L', fun ns ds L P P' k ⟨a, e, h, q⟩ => ⟨a, e, h, fun d L' z => k _ _ (q d L' z)⟩⟩
def spBS (K : PySem.W.Frag) (s : SpecBS) : Sp := fun vs H Q _ => ∃ S mu L a ns vs' ds, vs = .ref a :: vs' ∧ Same S H ∧ SqL K S a (ns.map V.int) ∧ (∀ a, a ∈ mu ↔ L a ≠ none) ∧ (∀ p b, L p = some b → S p = none ∧ BxOk S (H p) (some b)) ∧ DenL S vs' ds ∧
  s.S ns ds L fun d L' => ∀ v S' H', Rel0 K ⟨H, S, mu, [], emptyH⟩ S' H' [] [] → BxsOut S' H' L' mu H → Den S' v d → Q v H'
section
variable {X : Xb} {K : PySem.W.Frag} {f : Addr} {fd : FuncData} {ps : List Str} {k : Nat} {x y : Str} {es : List Expr} {t : TA} {w : WA} {p pos py : Pos} {s : SpecVS} {b : SpecBS}
def dCallVS (i : Nat) (s : SpecVS) (w : WA) : WE := fun γ Q => (∃ ns, γ[i]? = some (.scr ns)) ∧ w γ fun ds γ1 => ∃ ns, γ1[i]? = some (.scr ns) ∧ s.S ns ds fun r => ∃ d, r = .d d ∧ Q d γ1
def dCallVSF (i : Nat) (s : SpecVS) (w : WA) : WF := fun γ Q => (∃ ns, γ[i]? = some (.scr ns)) ∧ w γ fun ds γ1 => ∃ ns, γ1[i]? = some (.scr ns) ∧ s.S ns ds fun r => ∃ es, r = .f es ∧ Q es γ1
def dCallBS (i h : Nat) (s : SpecBS) (w : WA) : WE := fun γ Q => (∃ ns, γ[i]? = some (.scr ns)) ∧ w γ fun ds γ1 => ∃ ns m L, γ1[i]? = some (.scr ns) ∧ γ1[h]? = some (.hp m L) ∧ s.S ns ds L fun d L' => Q d (γ1.set h (.hp m L'))
end
def gamVS (N : List Str) (ns : List Int) (ds : List D) : List Sl := (gam N (.non :: ds)).set 0 (.scr ns)
def gamBS (N : List Str) (ns : List Int) (ds : List D) (L : Bxs) : List Sl := (gamB N (.non :: ds) L).set 0 (.scr ns)
section
variable {P : Program} {w : World} {K : PySem.W.Frag} {mg : Str → Option Value} {base : Heap} {x qual : Str} {st : Stmt} {f : Addr} {fd : FuncData} {N ps : List Str} {k : Nat}
end
section
variable {γ : List Sl} {i h : Nat} {s : SpecVS} {b : SpecBS} {w : WA} {Q : D → List Sl → Prop} {QF : List D → List Sl → Prop} {ns : List Int} {m : Bool} {L : Bxs}
end
end DL
set_option Elab.async false
set_option linter.all false
set_option autoImplicit false
set_option maxRecDepth 100000
set_option maxHeartbeats 4000000
/-! DL59: list(o), tuple(o) of a list in a box; min of two. -/
namespace DL
open PySem PySem.Spec PyProof.Rows L2
section
variable {X : Xb} {K : PySem.W.Frag} {a b c e : Expr} {ta tb tc te : TE} {wa wb wc we : WE} {pos p : Pos}
def dListB (h : Nat) (wa : WE) : WF := fun γ Q => wa γ fun x γ1 => ∃ m L q ds, x = .ref q ∧ γ1[h]? = some (.hp m L) ∧ L q = some (.lst ds) ∧ Q ds γ1
def dTupB (h : Nat) (wa : WE) : WE := fun γ Q => wa γ fun x γ1 => ∃ m L q ds, x = .ref q ∧ γ1[h]? = some (.hp m L) ∧ L q = some (.lst ds) ∧ Q (.tup ds) γ1
def minD (ds : List D) (Q : D → Prop) : Prop := ∃ i j, ds = [.int i, .int j] ∧ Q (.int (if j < i then j else i))
end
section
variable {γ : List Sl} {h : Nat} {wa : WE} {Q : D → List Sl → Prop} {QF : List D → List Sl → Prop} {m : Bool} {L : Bxs} {q : Addr} {es : List D}
instance : Go (dListB h wa γ QF) (wa γ fun x γ1 => ∃ m L q ds, x = .ref q ∧ γ1[h]? = some (.hp m L) ∧ L q = some (.lst ds) ∧ QF ds γ1) := ⟨fun z => z⟩
instance : Go (dTupB h wa γ Q) (wa γ fun x γ1 => ∃ m L q ds, x = .ref q ∧ γ1[h]? = some (.hp m L) ∧ L q = some (.lst ds) ∧ Q (.tup ds) γ1) := ⟨fun z => z⟩
end
end DL
set_option Elab.async false
set_option linter.all false
set_option autoImplicit false
set_option maxRecDepth 100000
set_option maxHeartbeats 4000000
/-! DL60: except T as e, where an exception of a class under T comes; isinstance of it with a class of the language. -/
namespace DL
open PySem PySem.Spec PyProof.Rows L2 He
def dTryAsR (K : PySem.W.Frag) (CR C : Addr) (i : Nat) (wb : (Addr → List (Str × D) → List Sl → Prop) → WS) (wsu : Addr → List (Str × D) → WS) (dX : Addr → List (Str × D) → List Sl → Prop) : WS := fun Dd γ =>
  wb (fun C' fs γ1 => (C' = CR ∧ ∀ a, wsu a fs { nx := fun γ2 => Dd.nx (γ2.set i .any), rt := Dd.rt, bk := fun γ2 => Dd.bk (γ2.set i .any), ct := fun γ2 => Dd.ct (γ2.set i .any) } (γ1.set i (.val (.ref a)))) ∨ (PySem.W.exmOne K (.ref C') (.ref C) = some false ∧ dX C' fs γ1)) Dd γ
section
variable {X : Xb} {i : Nat} {n x : Str} {body suite : List Stmt} {b₀ : Stmt} {np pos pos' : Pos} {tb : WX → TS} {ts : Addr → Value → Option Addr → TS} {wb : (Addr → List (Str × D) → List Sl → Prop) → WS} {wsu : Addr → List (Str × D) → WS} {C CR : Addr}
end
def rIsXT (K : PySem.W.Frag) (cls : Value) (C a : Addr) (d : Option Addr) : List V → Hp → VK → Prop := fun xs H Q => ∃ (T : String) (b : Bool), xs = [.ref a, .ty T] ∧ cls = .ref C ∧ (d = none ∨ ∃ dd ws, d = some dd ∧ H dd = some (.xd ws)) ∧ PySem.W.kitOne K (.ref C) (.type T) = some b ∧ Q (.bl b) H
section
variable {X : Xb} {C : Addr} {T : String} {i : Nat} {x y : Str} {p px py pos : Pos}
/-- isinstance(e, T), e the caught exception at slot i -/
def dIsXT (K : PySem.W.Frag) (C : Addr) (T : String) (a : Addr) (i : Nat) : WE := fun γ Q => γ[i]? = some (.val (.ref a)) ∧ ∃ b, PySem.W.kitOne K (.ref C) (.type T) = some b ∧ Q (.bl b) γ
end
section
variable {K : PySem.W.Frag} {γ : List Sl} {C a : Addr} {T : String} {i : Nat} {Q : D → List Sl → Prop}
instance : Go (dIsXT K C T a i γ Q) (γ[i]? = some (.val (.ref a)) ∧ ∃ b, PySem.W.kitOne K (.ref C) (.type T) = some b ∧ Q (.bl b) γ) := ⟨fun z => z⟩
end
section
variable {K : PySem.W.Frag} {C CR : Addr} {i : Nat} {wb : (Addr → List (Str × D) → List Sl → Prop) → WS} {wsu : Addr → List (Str × D) → WS} {dX : Addr → List (Str × D) → List Sl → Prop} {Dd : EndsD} {γ : List Sl}
instance : Go (dTryAsR K CR C i wb wsu dX Dd γ) (wb (fun C' fs γ1 => (C' = CR ∧ ∀ a, wsu a fs { nx := fun γ2 => Dd.nx (γ2.set i .any), rt := Dd.rt, bk := fun γ2 => Dd.bk (γ2.set i .any), ct := fun γ2 => Dd.ct (γ2.set i .any) } (γ1.set i (.val (.ref a)))) ∨ (PySem.W.exmOne K (.ref C') (.ref C) = some false ∧ dX C' fs γ1)) Dd γ) := ⟨fun z => z⟩
end
end DL
set_option Elab.async false
set_option linter.all false
set_option autoImplicit false
set_option maxRecDepth 100000
set_option maxHeartbeats 4000000
/-! DL61: all boxes in a slot's value lent; except T as e, where one of several classes comes; count of a box's list. -/
namespace DL
open PySem PySem.Spec PyProof.Rows L2 He
mutual
/-- the boxes told as lists, wherever they stand -/
def subX (L : Bxs) : D → D
  | .ref p => match L p with
    | some (.lst es) => .lst es
    | _ => .ref p
  | .lst ds => .lst (subXs L ds)
  | .tup ds => .tup (subXs L ds)
  | .non => .non
  | .bl b => .bl b
  | .int i => .int i
  | .str s => .str s
  | .obj C fs => .obj C fs
  | .emp => .emp
def subXs (L : Bxs) : List D → List D
  | [] => []
  | d :: r => subX L d :: subXs L r
end
section
variable {S S' : Hp} {L : Bxs} (e : Same S S') (h : ∀ q es, L q = some (.lst es) → Den S' (.ref q) (.lst es))
include e h
mutual
theorem Den.subX : ∀ (d : D) (v : V), Den S v d → Den S' v (subX L d)
  | .ref p, v, k => by
    cases k
    unfold DL.subX
    split
    · rename_i es l; exact h p es l
    · exact .ref p
  | .lst ds, v, k => by
    obtain ⟨a, xs, rfl, h1, h2⟩ := k.lst_inv
    unfold DL.subX
    exact .ofL (e _ _ h1) (DenL.subXs ds xs h2)
  | .tup ds, v, k => by
    obtain ⟨a, xs, rfl, h1, h2⟩ := k.tup_inv
    unfold DL.subX
    exact .ofT (e _ _ h1) (DenL.subXs ds xs h2)
  | .non, v, k => k.mono e
  | .bl b, v, k => k.mono e
  | .int i, v, k => k.mono e
  | .str s, v, k => k.mono e
  | .obj C fs, v, k => k.mono e
  | .emp, v, k => k.mono e
theorem DenL.subXs : ∀ (ds : List D) (vs : List V), DenL S vs ds → DenL S' vs (subXs L ds)
  | [], vs, k => by rw [k.nil_inv]; exact .nil
  | d :: r, vs, k => by
    obtain ⟨x, xs, rfl, h1, h2⟩ := k.cons_inv
    unfold DL.subXs
    exact .cons (Den.subX d x h1) (DenL.subXs r xs h2)
end
end
section
variable {X : Xb} {K : PySem.W.Frag} {B : Bs} {S H : Hp} {σ : L2.St} {γ : List Sl} {i h : Nat} {d : D} {m : Bool} {L : Bxs}
end
section
variable {X : Xb} {e : Expr} {te : TE} {we : WE} {tt : TT} {wt : WT}
def LendsX (γ : List Sl) (i h : Nat) (P : List Sl → Prop) : Prop := ∃ d m L, γ[i]? = some (.val d) ∧ γ[h]? = some (.hp m L) ∧ P ((lentS γ).set i (.val (subX L d)))
def dLendXT (i h : Nat) (wt : WT) : WT := fun γ Q => LendsX γ i h fun γ1 => wt γ1 fun b _ => Q b γ
def dLendXE (i h : Nat) (we : WE) : WE := fun γ Q => LendsX γ i h fun γ1 => we γ1 fun d _ => flat d ∧ Q d γ
end
section
variable {γ : List Sl} {i h : Nat} {we : WE} {wt : WT} {Q : D → List Sl → Prop} {QT : Bool → List Sl → Prop}
instance : Go (dLendXT i h wt γ QT) (LendsX γ i h fun γ1 => wt γ1 fun b _ => QT b γ) := ⟨fun z => z⟩
instance : Go (dLendXE i h we γ Q) (LendsX γ i h fun γ1 => we γ1 fun d _ => flat d ∧ Q d γ) := ⟨fun z => z⟩
end
/-! ### one of several classes comes -/
abbrev HandC := Addr × (Addr → Value → Option Addr → TS) × (Addr → List (Str × D) → WS)
noncomputable def selT (l : List HandC) : Addr → Value → Option Addr → TS := by
  classical
  exact fun a cls d => match l.find? (fun e => decide (cls = .ref e.1)) with
    | some e => e.2.1 a cls d
    | none => match l with
      | [] => fun _ _ _ => False
      | e :: _ => e.2.1 a cls d
abbrev EndsD.unsetM (Dd : EndsD) (i : Nat) : EndsD := { nx := fun γ2 => Dd.nx (γ2.set i .any), rt := Dd.rt, bk := fun γ2 => Dd.bk (γ2.set i .any), ct := fun γ2 => Dd.ct (γ2.set i .any) }
def dTryAsM (K : PySem.W.Frag) (l : List HandC) (C : Addr) (i : Nat) (wb : (Addr → List (Str × D) → List Sl → Prop) → WS) (dX : Addr → List (Str × D) → List Sl → Prop) : WS := fun Dd γ =>
  wb (fun C' fs γ1 => ((∃ e ∈ l, e.1 = C') ∧ ∀ e ∈ l, e.1 = C' → ∀ a, e.2.2 a fs (Dd.unsetM i) (γ1.set i (.val (.ref a)))) ∨ (PySem.W.exmOne K (.ref C') (.ref C) = some false ∧ dX C' fs γ1)) Dd γ
inductive HM (X : Xb) (C : Addr) (body : List Stmt) : List HandC → Prop
  | nil : HM X C body []
  | cons {CR : Addr} {ts : Addr → Value → Option Addr → TS} {wsu : Addr → List (Str × D) → WS} {l : List HandC} (hex : PySem.W.exmOne X.K (.ref CR) (.ref C) = some true)
      (hsu : ∀ (a : Addr) (oe : Obj) (cls : Value) (d : Option Addr) (pn : List (Addr × Obj)) (fs : List (Str × D)), Zc cls d oe → (∃ vs, oe.data = .fields vs) → DSs (X.su a oe pn cls CR d fs) body (ts a cls d) (wsu a fs)) (r : HM X C body l) : HM X C body ((CR, ts, wsu) :: l)
theorem HM.at {X : Xb} {C : Addr} {body : List Stmt} {l : List HandC} (h : HM X C body l) : ∀ e ∈ l, PySem.W.exmOne X.K (.ref e.1) (.ref C) = some true ∧ ∀ (a : Addr) (oe : Obj) (cls : Value) (d : Option Addr) (pn : List (Addr × Obj)) (fs : List (Str × D)), Zc cls d oe → (∃ vs, oe.data = .fields vs) → DSs (X.su a oe pn cls e.1 d fs) body (e.2.1 a cls d) (e.2.2 a fs) := by
  induction h with
  | nil => exact fun e he => by cases he
  | cons hex hsu r ih =>
    intro e he
    rcases List.mem_cons.mp he with z | z
    · subst z; exact ⟨hex, hsu⟩
    · exact ih e z
section
variable {X : Xb} {i : Nat} {n x : Str} {body suite : List Stmt} {b₀ : Stmt} {np pos pos' : Pos} {tb : WX → TS} {wb : (Addr → List (Str × D) → List Sl → Prop) → WS} {C : Addr} {e0 : HandC} {l : List HandC}
instance {K : PySem.W.Frag} {dX : Addr → List (Str × D) → List Sl → Prop} {Dd : EndsD} {γ : List Sl} : Go (dTryAsM K l C i wb dX Dd γ) (wb (fun C' fs γ1 => ((∃ e ∈ l, e.1 = C') ∧ ∀ e ∈ l, e.1 = C' → ∀ a, e.2.2 a fs (Dd.unsetM i) (γ1.set i (.val (.ref a)))) ∨ (PySem.W.exmOne K (.ref C') (.ref C) = some false ∧ dX C' fs γ1)) Dd γ) := ⟨fun z => z⟩
end
/-! ### count of a box's list of ints -/
section
variable {X : Xb} {o e : Expr} {to te : TE} {wo we : WE} {p1 p2 : Pos}
def dCntB (h : Nat) (wo we : WE) : WE := fun γ Q => wo γ fun x γ1 => (∃ m L q ds, x = .ref q ∧ γ1[h]? = some (.hp m L) ∧ L q = some (.lst ds)) ∧ we γ1 fun d γ2 => ∃ m L q ns k, x = .ref q ∧ d = .int k ∧ γ2[h]? = some (.hp m L) ∧ L q = some (.lst (intL ns)) ∧ Q (.int (ns.count k : Nat)) γ2
end
section
variable {γ : List Sl} {h : Nat} {wo we : WE} {Q : D → List Sl → Prop}
instance : Go (dCntB h wo we γ Q) (wo γ fun x γ1 => (∃ m L q ds, x = .ref q ∧ γ1[h]? = some (.hp m L) ∧ L q = some (.lst ds)) ∧ we γ1 fun d γ2 => ∃ m L q ns k, x = .ref q ∧ d = .int k ∧ γ2[h]? = some (.hp m L) ∧ L q = some (.lst (intL ns)) ∧ Q (.int (ns.count k : Nat)) γ2) := ⟨fun z => z⟩
end
end DL
set_option Elab.async false
set_option linter.all false
set_option autoImplicit false
set_option maxRecDepth 100000
set_option maxHeartbeats 4000000
/-! DL62: a def of kind B whose body has a try. -/
namespace DL
open PySem PySem.Spec PyProof.Rows L2 He
section
variable {P : Program} {w : World} {K : PySem.W.Frag} {mg : Str → Option Value} {base : Heap} {x qual : Str} {st : Stmt} {f : Addr} {fd : FuncData} {N ps : List Str} {k : Nat}
end
section
variable {X : Xb} {K : PySem.W.Frag} {f : Addr} {fd : FuncData} {ps : List Str} {k : Nat} {x : Str} {e : Expr} {es : List Expr} {t : TA} {w : WA} {p pos : Pos} {s : SpecBX}
end
end DL
set_option Elab.async false
set_option linter.all false
set_option autoImplicit false
set_option maxRecDepth 100000
set_option maxHeartbeats 4000000
/-! DL63: a comprehension of two clauses given to a name. -/
namespace DL
open PySem PySem.Spec PyProof.Rows L2
section
variable {X : Xb}
end
end DL
set_option Elab.async false
set_option linter.all false
set_option autoImplicit false
set_option maxRecDepth 100000
set_option maxHeartbeats 4000000
/-! DL64: < and <= of nested data; x not in l; min and max of two, min of a list of nested data. -/
namespace DL
open PySem PySem.Spec PyProof.Rows L2
/-! ### the rules over the real heap -/
/-- data that < takes -/
structure LtP (d e : PyData) : Prop where
  al : PySem.W.alike d e = true
  nn : d ≠ .none
  d1 : d.depth ≤ 64
  d2 : e.depth ≤ 64
def rLtD (K : PySem.W.Frag) : R2 := fun x y H Q => ∃ d e, Dp K H x d ∧ Dp K H y e ∧ LtP d e ∧ Q (.bl (PySem.W.dataLt d e)) H
def rLeD (K : PySem.W.Frag) : R2 := fun x y H Q => ∃ d e, Dp K H x d ∧ Dp K H y e ∧ LtP d e ∧ Q (.bl (!PySem.W.dataLt e d)) H
def rGtD (K : PySem.W.Frag) : R2 := fun x y H Q => ∃ d e, Dp K H x d ∧ Dp K H y e ∧ LtP d e ∧ Q (.bl (PySem.W.dataLt e d)) H
section
variable {X : Cx}
end
section
variable {prog : Program} {w : World} {A : Around} {E : Value → Shared → Prop} {s : Shared}
end
/-! ### calls -/
def LtA (d e : PyData) : Prop := PySem.W.AlikeAll [d, e] ∧ d.depth ≤ 64 ∧ e.depth ≤ 64
theorem LtA.dp {d e : PyData} (h : LtA d e) : PyData.depthAll [d, e] ≤ 64 := by
  have h1 := h.2.1
  have h2 := h.2.2
  simp only [PyData.depthAll]
  omega
def rMin2D (K : PySem.W.Frag) : List V → Hp → VK → Prop := fun xs H Q => ∃ x y d e, xs = [x, y] ∧ Dp K H x d ∧ Dp K H y e ∧ LtA d e ∧ Q (if PySem.W.dataLt e d = true then y else x) H
def rMax2D (K : PySem.W.Frag) : List V → Hp → VK → Prop := fun xs H Q => ∃ x y d e, xs = [x, y] ∧ Dp K H x d ∧ Dp K H y e ∧ LtA d e ∧ Q (if PySem.W.dataLt d e = true then y else x) H
def rMinLD (K : PySem.W.Frag) : List V → Hp → VK → Prop := fun xs H Q => ∃ l vs ds, xs = [.ref l] ∧ SqL K H l vs ∧ DpAll K H vs ds ∧ PySem.W.AlikeAll ds ∧ ds ≠ [] ∧ PyData.depthAll ds ≤ 64 ∧ ∀ v, v ∈ vs → (∃ d ds', ds = d :: ds' ∧ Dp K H v (PySem.W.minD d ds')) → Q v H
section
variable {X : Cx}
end
/-! ### over plain data -/
/-- data that < takes -/
structure LtD (x y : D) : Prop where
  n1 : noObj x = true
  n2 : noObj y = true
  a1 : PySem.W.alike (toP x) (toP y) = true
  nn : toP x ≠ .none
  d1 : (toP x).depth ≤ 64
  d2 : (toP y).depth ≤ 64
def ltD (x y : D) : Bool := PySem.W.dataLt (toP x) (toP y)
def fLtD (x y : D) (Q : D → Prop) : Prop := LtD x y ∧ Q (.bl (ltD x y))
def fLeD (x y : D) (Q : D → Prop) : Prop := LtD x y ∧ Q (.bl (!ltD y x))
def fGtD (x y : D) (Q : D → Prop) : Prop := LtD x y ∧ Q (.bl (ltD y x))
def fNotInD (x y : D) (Q : D → Prop) : Prop := ∃ ds, y = .lst ds ∧ PlD x ∧ PlD y ∧ Q (.bl (!ds.any fun z => eqD z x))
theorem LtD.p {x y : D} (h : LtD x y) : LtP (toP x) (toP y) := ⟨h.a1, h.nn, h.d1, h.d2⟩
section
variable {X : Xb} {a b : Expr} {ta tb : TE} {wa wb : WE} {pos : Pos} {k : Nat}
end
/-- data of a kind of which < takes any two -/
structure OrdD (x y : D) : Prop where
  lt : LtD x y
  s1 : PySem.W.alike (toP x) (toP x) = true
  s2 : PySem.W.alike (toP y) (toP y) = true
def min2F (ds : List D) (Q : D → Prop) : Prop := ∃ x y, ds = [x, y] ∧ OrdD x y ∧ Q (if ltD y x = true then y else x)
def max2F (ds : List D) (Q : D → Prop) : Prop := ∃ x y, ds = [x, y] ∧ OrdD x y ∧ Q (if ltD x y = true then y else x)
section
variable {X : Xb} {x : Str} {p pos : Pos} {e : Expr} {es : List Expr} {t : TA} {w : WA} {k : Nat}
end
end DL
set_option Elab.async false
set_option linter.all false
set_option autoImplicit false
set_option maxRecDepth 100000
set_option maxHeartbeats 4000000
/-! DL65: all lists of one's own (and all lists in boxes) lent as values at once; results without lists. -/
namespace DL
open PySem PySem.Spec PyProof.Rows L2
mutual
/-- data without lists, instances, dicts -/
def noL : D → Bool
  | .lst _ => false
  | .tup ds => noLs ds
  | .obj _ _ => false
  | .emp => false
  | _ => true
def noLs : List D → Bool
  | [] => true
  | d :: r => noL d && noLs r
end
section
variable {S1 S2 : Hp} (h : ∀ a xs, S1 a = some (.tup xs) → S2 a = some (.tup xs))
include h
mutual
theorem Den.noL : ∀ (d : D) (v : V), Den S1 v d → DL.noL d = true → Den S2 v d
  | .tup ds, v, k, n => by
    obtain ⟨a, xs, rfl, h1, h2⟩ := k.tup_inv
    exact .ofT (h _ _ h1) (DenL.noLs ds xs h2 n)
  | .lst ds, v, k, n => by cases n
  | .obj C fs, v, k, n => by cases n
  | .emp, v, k, n => by cases n
  | .non, v, k, n => by cases k; exact .non
  | .bl b, v, k, n => by cases k; exact .bl b
  | .int b, v, k, n => by cases k; exact .int b
  | .str b, v, k, n => by cases k; exact .str b
  | .ref b, v, k, n => by cases k; exact .ref b
theorem DenL.noLs : ∀ (ds : List D) (vs : List V), DenL S1 vs ds → DL.noLs ds = true → DenL S2 vs ds
  | [], vs, k, n => by rw [k.nil_inv]; exact .nil
  | d :: r, vs, k, n => by
    obtain ⟨x, xs, rfl, h1, h2⟩ := k.cons_inv
    have n : (DL.noL d && DL.noLs r) = true := n
    rw [Bool.and_eq_true] at n
    exact .cons (Den.noL d x h1 n.1) (DenL.noLs r xs h2 n.2)
end
end
/-- the slots while all lists of one's own are lent -/
def lentO : List Sl → List Sl
  | [] => []
  | .own _ ds :: γ => .val (.lst ds) :: lentO γ
  | .ins _ _ _ :: γ => .any :: lentO γ
  | .hp _ _ :: γ => .any :: lentO γ
  | s :: γ => s :: lentO γ
/-- the same, boxes told as lists -/
def lentB (L : Bxs) : List Sl → List Sl
  | [] => []
  | .own _ ds :: γ => .val (.lst (subXs L ds)) :: lentB L γ
  | .val d :: γ => .val (subX L d) :: lentB L γ
  | .ins _ _ _ :: γ => .any :: lentB L γ
  | .hp _ _ :: γ => .any :: lentB L γ
  | s :: γ => s :: lentB L γ
/-- how a slot is lent -/
inductive LentS (L : Bxs) : Sl → Sl → Prop
  | any {s : Sl} : LentS L s .any
  | val {d : D} : LentS L (.val d) (.val d)
  | own {m : Bool} {ds : List D} : LentS L (.own m ds) (.val (.lst ds))
  | valX {d : D} : LentS L (.val d) (.val (subX L d))
  | ownX {m : Bool} {ds : List D} : LentS L (.own m ds) (.val (.lst (subXs L ds)))
  | scr {ns : List Int} : LentS L (.scr ns) (.scr ns)
section
variable {X : Xb} {K : PySem.W.Frag} {B : Bs} {S H : Hp} {σ : L2.St} {γ γ' : List Sl} {L : Bxs}
/-- is the list at p lent? -/
def LentP (γ : List Sl) (σ : L2.St) (L : Bxs) (p : Addr) : Prop := (∃ (i : Nat) (m : Bool) (ds : List D), γ[i]? = some (Sl.own m ds) ∧ σ[i]? = some (some (V.ref p))) ∨ ∃ es, L p = some (.lst es)
end
section
variable {X : Xb} {e : Expr} {te : TE} {we : WE} {tt : TT} {wt : WT} {tf : TE} {wf : WF}
/-- all lists of one's own lent: a test, an expression, a new list -/
def dLendOT (wt : WT) : WT := fun γ Q => wt (lentO γ) fun b _ => Q b γ
def dLendOE (we : WE) : WE := fun γ Q => we (lentO γ) fun d _ => noL d = true ∧ Q d γ
def dLendOF (wf : WF) : WF := fun γ Q => wf (lentO γ) fun ds _ => noLs ds = true ∧ Q ds γ
def dLendBT2 (h : Nat) (wt : WT) : WT := fun γ Q => ∃ m L, γ[h]? = some (.hp m L) ∧ wt (lentB L γ) fun b _ => Q b γ
def dLendBE2 (h : Nat) (we : WE) : WE := fun γ Q => ∃ m L, γ[h]? = some (.hp m L) ∧ we (lentB L γ) fun d _ => noL d = true ∧ Q d γ
def dLendBF2 (h : Nat) (wf : WF) : WF := fun γ Q => ∃ m L, γ[h]? = some (.hp m L) ∧ wf (lentB L γ) fun ds _ => noLs ds = true ∧ Q ds γ
end
/-! ### a comprehension given to a name, lists lent -/
section
variable {X : Xb} {i : Nat} {y : Str} {py : Pos} {elt tg iter : Expr} {ifs : List Expr} {scope : Scope} {own : List (Str × Nat)} {pos spos : Pos} {ti : TI} {wi : WA} {g : TG} {wg : WG} {tt : TT} {wt : WT} {te : TE} {we : WE}
end
section
variable {γ : List Sl} {h : Nat} {we : WE} {wt : WT} {wf : WF} {Q : D → List Sl → Prop} {QT : Bool → List Sl → Prop} {QF : List D → List Sl → Prop}
instance : Go (dLendOT wt γ QT) (wt (lentO γ) fun b _ => QT b γ) := ⟨fun z => z⟩
instance : Go (dLendOE we γ Q) (we (lentO γ) fun d _ => noL d = true ∧ Q d γ) := ⟨fun z => z⟩
instance : Go (dLendOF wf γ QF) (wf (lentO γ) fun ds _ => noLs ds = true ∧ QF ds γ) := ⟨fun z => z⟩
instance : GoH2 (dLendBT2 h wt γ QT) (∃ m L, γ[h]? = some (.hp m L) ∧ wt (lentB L γ) fun b _ => QT b γ) := ⟨fun z => z⟩
instance : GoH2 (dLendBE2 h we γ Q) (∃ m L, γ[h]? = some (.hp m L) ∧ we (lentB L γ) fun d _ => noL d = true ∧ Q d γ) := ⟨fun z => z⟩
instance : GoH2 (dLendBF2 h wf γ QF) (∃ m L, γ[h]? = some (.hp m L) ∧ wf (lentB L γ) fun ds _ => noLs ds = true ∧ QF ds γ) := ⟨fun z => z⟩
end
end DL
set_option Elab.async false
set_option linter.all false
set_option autoImplicit false
set_option maxRecDepth 100000
set_option maxHeartbeats 4000000
/-! DL66: lists of one's own lent, their boxes told as lists; min of a list of nested data. -/
namespace DL
open PySem PySem.Spec PyProof.Rows L2
/-- all lists of one's own lent, the boxes in them told as lists; values as they are -/
def lentC (L : Bxs) : List Sl → List Sl
  | [] => []
  | .own _ ds :: γ => .val (.lst (subXs L ds)) :: lentC L γ
  | .ins _ _ _ :: γ => .any :: lentC L γ
  | .hp _ _ :: γ => .any :: lentC L γ
  | s :: γ => s :: lentC L γ
section
variable {X : Xb} {e : Expr} {te : TE} {we : WE} {tt : TT} {wt : WT} {tf : TE} {wf : WF}
def dLendCT (h : Nat) (wt : WT) : WT := fun γ Q => ∃ m L, γ[h]? = some (.hp m L) ∧ wt (lentC L γ) fun b _ => Q b γ
def dLendCE (h : Nat) (we : WE) : WE := fun γ Q => ∃ m L, γ[h]? = some (.hp m L) ∧ we (lentC L γ) fun d _ => noL d = true ∧ Q d γ
def dLendCF (h : Nat) (wf : WF) : WF := fun γ Q => ∃ m L, γ[h]? = some (.hp m L) ∧ wf (lentC L γ) fun ds _ => noLs ds = true ∧ Q ds γ
end
section
variable {X : Xb} {i : Nat} {y : Str} {py : Pos} {elt tg iter : Expr} {ifs : List Expr} {scope : Scope} {own : List (Str × Nat)} {pos spos : Pos} {ti : TI} {wi : WA} {g : TG} {wg : WG} {tt : TT} {wt : WT} {te : TE} {we : WE}
end
section
variable {γ : List Sl} {h : Nat} {we : WE} {wt : WT} {wf : WF} {Q : D → List Sl → Prop} {QT : Bool → List Sl → Prop} {QF : List D → List Sl → Prop}
instance : GoH2 (dLendCT h wt γ QT) (∃ m L, γ[h]? = some (.hp m L) ∧ wt (lentC L γ) fun b _ => QT b γ) := ⟨fun z => z⟩
instance : GoH2 (dLendCE h we γ Q) (∃ m L, γ[h]? = some (.hp m L) ∧ we (lentC L γ) fun d _ => noL d = true ∧ Q d γ) := ⟨fun z => z⟩
instance : GoH2 (dLendCF h wf γ QF) (∃ m L, γ[h]? = some (.hp m L) ∧ wf (lentC L γ) fun ds _ => noLs ds = true ∧ QF ds γ) := ⟨fun z => z⟩
end
def rMinL (K : PySem.W.Frag) : List V → Hp → VK → Prop := fun xs H Q => ∃ l vs d ds, xs = [.ref l] ∧ SqL K H l vs ∧ DpAll K H vs (d :: ds) ∧ PySem.W.AlikeAll (d :: ds) ∧ PyData.depthAll (d :: ds) ≤ 64 ∧ ∀ (i : Nat) v e, vs[i]? = some v → (d :: ds)[i]? = some e → (∀ y ∈ d :: ds, PySem.W.dataLt y e = false) → Q v H
section
variable {X : Cx}
end
/-- data of which < takes any two -/
structure OrdL (es : List D) : Prop where
  ne : es ≠ []
  al : ∀ x ∈ es, ∀ y ∈ es, PySem.W.alike (toP x) (toP y) = true
  no : ∀ x ∈ es, noObj x = true ∧ toP x ≠ .none
  dp : ∀ x ∈ es, (toP x).depth ≤ 64
theorem toPs_map : ∀ es : List D, toPs es = es.map toP
  | [] => rfl
  | d :: r => by rw [toPs, toPs_map r]; rfl
theorem OrdL.all {es : List D} (h : OrdL es) : PySem.W.AlikeAll (toPs es) ∧ PyData.depthAll (toPs es) ≤ 64 ∧ noObjs es = true := by
  refine ⟨⟨fun a ha b hb => ?_, fun a ha => ?_⟩, depth_of h.dp, noObjs_of fun d hd => (h.no d hd).1⟩
  · rw [toPs_map] at ha hb
    obtain ⟨x, hx, rfl⟩ := List.mem_map.mp ha
    obtain ⟨y, hy, rfl⟩ := List.mem_map.mp hb
    exact h.al x hx y hy
  · rw [toPs_map] at ha
    obtain ⟨x, hx, rfl⟩ := List.mem_map.mp ha
    exact (h.no x hx).2
def minLF (ds : List D) (Q : D → Prop) : Prop := ∃ es, ds = [.lst es] ∧ OrdL es ∧ ∀ x ∈ es, (∀ y ∈ es, ltD y x = false) → Q x
end DL
set_option Elab.async false
set_option linter.all false
set_option autoImplicit false
set_option maxRecDepth 100000
set_option maxHeartbeats 4000000
/-! DL67: boxes within boxes told as lists while lent; o.pop(k) of a list in a box. -/
namespace DL
open PySem PySem.Spec PyProof.Rows L2
/-- the boxes, what stands in them told too -/
def sub2 (L : Bxs) : Bxs := fun p => match L p with
  | some (.lst es) => some (.lst (subXs L es))
  | b => b
/-- the slots while all lists of one's own are lent, boxes told to their ground -/
def lentD (L : Bxs) : List Sl → List Sl
  | [] => []
  | .own _ ds :: γ => .val (.lst (subXs (sub2 L) ds)) :: lentD L γ
  | .val d :: γ => .val (subX (sub2 L) d) :: lentD L γ
  | .ins _ _ _ :: γ => .any :: lentD L γ
  | .hp _ _ :: γ => .any :: lentD L γ
  | s :: γ => s :: lentD L γ
inductive LentT (L : Bxs) : Sl → Sl → Prop
  | any {s : Sl} : LentT L s .any
  | val {d : D} : LentT L (.val d) (.val (subX (sub2 L) d))
  | own {m : Bool} {ds : List D} : LentT L (.own m ds) (.val (.lst (subXs (sub2 L) ds)))
  | scr {ns : List Int} : LentT L (.scr ns) (.scr ns)
section
variable {X : Xb} {K : PySem.W.Frag} {B : Bs} {S H : Hp} {σ : L2.St} {γ γ' : List Sl} {L : Bxs}
end
section
variable {X : Xb} {e : Expr} {te : TE} {we : WE} {tt : TT} {wt : WT} {tf : TE} {wf : WF}
def dLendDT (h : Nat) (wt : WT) : WT := fun γ Q => ∃ m L, γ[h]? = some (.hp m L) ∧ wt (lentD L γ) fun b _ => Q b γ
def dLendDE (h : Nat) (we : WE) : WE := fun γ Q => ∃ m L, γ[h]? = some (.hp m L) ∧ we (lentD L γ) fun d _ => noL d = true ∧ Q d γ
def dLendDF (h : Nat) (wf : WF) : WF := fun γ Q => ∃ m L, γ[h]? = some (.hp m L) ∧ wf (lentD L γ) fun ds _ => noLs ds = true ∧ Q ds γ
end
section
variable {X : Xb} {i : Nat} {y : Str} {py : Pos} {elt tg iter : Expr} {ifs : List Expr} {scope : Scope} {own : List (Str × Nat)} {pos spos : Pos} {ti : TI} {wi : WA} {g : TG} {wg : WG} {tt : TT} {wt : WT} {te : TE} {we : WE}
end
section
variable {γ : List Sl} {h : Nat} {we : WE} {wt : WT} {wf : WF} {Q : D → List Sl → Prop} {QT : Bool → List Sl → Prop} {QF : List D → List Sl → Prop}
instance : GoH2 (dLendDT h wt γ QT) (∃ m L, γ[h]? = some (.hp m L) ∧ wt (lentD L γ) fun b _ => QT b γ) := ⟨fun z => z⟩
instance : GoH2 (dLendDE h we γ Q) (∃ m L, γ[h]? = some (.hp m L) ∧ we (lentD L γ) fun d _ => noL d = true ∧ Q d γ) := ⟨fun z => z⟩
instance : GoH2 (dLendDF h wf γ QF) (∃ m L, γ[h]? = some (.hp m L) ∧ wf (lentD L γ) fun ds _ => noLs ds = true ∧ QF ds γ) := ⟨fun z => z⟩
end
/-! ### o.pop(k), o a list in a box -/
section
variable {X : Xb} {o e : Expr} {to te : TE} {wo we : WE} {p1 p2 : Pos}
def dPopK (h : Nat) (wo we : WE) : WE := fun γ Q => wo γ fun x γ1 => (∃ m L q ds, x = .ref q ∧ γ1[h]? = some (.hp m L) ∧ L q = some (.lst ds)) ∧ we γ1 fun d γ2 => ∃ (n : Int) (m : Bool) (L : Bxs) (q : Addr) (ds : List D) (y : D), d = .int n ∧ x = .ref q ∧ γ2[h]? = some (.hp m L) ∧ L q = some (.lst ds) ∧ (0 ≤ n ∧ n < 2 ^ 63) ∧ ds[n.toNat]? = some y ∧ Q y (γ2.set h (.hp m (updB L q (.lst (ds.eraseIdx n.toNat)))))
end
section
variable {γ : List Sl} {h : Nat} {wo we : WE} {Q : D → List Sl → Prop}
instance : Go (dPopK h wo we γ Q) (wo γ fun x γ1 => (∃ m L q ds, x = .ref q ∧ γ1[h]? = some (.hp m L) ∧ L q = some (.lst ds)) ∧ we γ1 fun d γ2 => ∃ (n : Int) (m : Bool) (L : Bxs) (q : Addr) (ds : List D) (y : D), d = .int n ∧ x = .ref q ∧ γ2[h]? = some (.hp m L) ∧ L q = some (.lst ds) ∧ (0 ≤ n ∧ n < 2 ^ 63) ∧ ds[n.toNat]? = some y ∧ Q y (γ2.set h (.hp m (updB L q (.lst (ds.eraseIdx n.toNat)))))) := ⟨fun z => z⟩
end
end DL
set_option Elab.async false
set_option linter.all false
set_option autoImplicit false
set_option maxRecDepth 100000
set_option maxHeartbeats 4000000
/-! DL68: sorted of nested data of any length; max of two ints; len(script); xs[k], xs[l] = a, b. -/
namespace DL
open PySem PySem.Spec PyProof.Rows L2
/-! ### sorted -/
abbrev encB (b : V × D) : PyData := toP b.2
def rSortD (K : PySem.W.Frag) : List V → Hp → VK → Prop := fun xs H Q => ∃ (l : Addr) (bs : List (V × D)), xs = [.ref l] ∧ SqL K H l (bs.map (·.1)) ∧ (∀ b ∈ bs, Dp K H b.1 (toP b.2)) ∧ PySem.W.AllAlike (bs.map encB) ∧ PySem.W.Sortable (bs.map encB) ∧ (∀ b ∈ bs, (toP b.2).depth ≤ 64) ∧
  ∀ (ps : List (V × D)) p, ps.Perm bs → ps.Pairwise (fun a b => PySem.W.dataLt (toP b.2) (toP a.2) = false) → H p = none → Q (.ref p) (upd H p (.lst (ps.map (·.1))))
section
variable {X : Cx}
end
/-- data of one kind, a list that sorted takes -/
structure SrtD (es : List D) : Prop where
  al : ∀ x ∈ es, ∀ y ∈ es, PySem.W.alike (toP x) (toP y) = true
  no : ∀ x ∈ es, noObj x = true
  tu : (∀ x ∈ es, ∃ y r, x = .tup (y :: r)) ∨ ∀ x ∈ es, toP x ≠ .none ∧ ∀ r, toP x ≠ .tuple r
  dp : ∀ x ∈ es, (toP x).depth ≤ 64
def dSortD (wa : WE) : WF := fun γ Q => wa γ fun x γ1 => ∃ es, x = .lst es ∧ SrtD es ∧ ∀ es' : List D, es'.Perm es → es'.Pairwise (fun a b => ltD b a = false) → Q es' γ1
section
variable {X : Xb} {a : Expr} {ta : TE} {wa : WE} {p pos : Pos} {k : Nat}
instance {γ : List Sl} {QF : List D → List Sl → Prop} : Go (dSortD wa γ QF) (wa γ fun x γ1 => ∃ es, x = .lst es ∧ SrtD es ∧ ∀ es' : List D, es'.Perm es → es'.Pairwise (fun a b => ltD b a = false) → QF es' γ1) := ⟨fun z => z⟩
end
/-! ### max of two ints -/
def maxI (ds : List D) (Q : D → Prop) : Prop := ∃ i j, ds = [.int i, .int j] ∧ Q (.int (if j > i then j else i))
/-! ### len(script) -/
section
variable {X : Xb} {p px pos : Pos} {x : Str}
def dLenS (i : Nat) : WE := fun γ Q => ∃ ns, γ[i]? = some (.scr ns) ∧ Q (.int (ns.length : Nat)) γ
instance {γ : List Sl} {i : Nat} {Q : D → List Sl → Prop} : GoH1 (dLenS i γ Q) (∃ ns, γ[i]? = some (.scr ns) ∧ Q (.int (ns.length : Nat)) γ) := ⟨fun z => z⟩
end
/-! ### xs[k], xs[l] = a, b; xs of one's own -/
section
variable {X : Xb} {a b k l : Expr} {ta tb tk tl : TE} {wa wb wk wl : WE} {pos : Pos}
def dSwap (i : Nat) (we wk wl : WE) : WS := fun Dd γ => we γ fun d γ1 => ∃ x y, d = .tup [x, y] ∧ (∃ ds, γ1[i]? = some (.own false ds)) ∧ wk γ1 fun kd γ2 => ∃ n ds j, kd = .int n ∧ γ2[i]? = some (.own false ds) ∧ ixN ds.length n = some j ∧
  wl (γ2.set i (.own false (ds.set j x))) fun ld γ3 => ∃ n2 es j2, ld = .int n2 ∧ γ3[i]? = some (.own false es) ∧ ixN es.length n2 = some j2 ∧ Dd.nx (γ3.set i (.own false (es.set j2 y)))
instance {γ : List Sl} {Dd : EndsD} {i : Nat} {we : WE} : Go (dSwap i we wk wl Dd γ) (we γ fun d γ1 => ∃ x y, d = .tup [x, y] ∧ (∃ ds, γ1[i]? = some (.own false ds)) ∧ wk γ1 fun kd γ2 => ∃ n ds j, kd = .int n ∧ γ2[i]? = some (.own false ds) ∧ ixN ds.length n = some j ∧
  wl (γ2.set i (.own false (ds.set j x))) fun ld γ3 => ∃ n2 es j2, ld = .int n2 ∧ γ3[i]? = some (.own false es) ∧ ixN es.length n2 = some j2 ∧ Dd.nx (γ3.set i (.own false (es.set j2 y)))) := ⟨fun z => z⟩
end
end DL
set_option Elab.async false
set_option linter.all false
set_option autoImplicit false
set_option maxRecDepth 100000
set_option maxHeartbeats 4000000
/-! DL69: own exceptions of two fields; x = (e.f, e.g) in a handler. -/
namespace DL
open PySem PySem.Spec PyProof.Rows L2 He
/-- what the __init__ of a class with two fields does -/
def spInit2 (C : Addr) (f g : Str) : Sp := fun vs H Q _ => ∃ a y z, vs = [.ref a, y, z] ∧ H a = some (exo a C none) ∧ ∀ dx, H dx = none → dx ≠ a → Q .non (upd (upd (upd H dx (exd dx [(f, y)])) a (exo a C (some dx))) dx (exd dx [(g, z), (f, y)]))
/-- an own exception class with an __init__ of two fields -/
structure Xc2 (P : Program) (w : World) (K : PySem.W.Frag) (mg : Str → Option Value) (base : Heap) (x fl fl2 : Str) where
  C : Addr
  g : mg x = some (.ref C)
  T : OexC K C
  fI : Addr
  i : PySem.W.findIn K (.ref C) "__init__" = some (some (.ref fI))
  ti : PySem.W.typeIn K (.ref fI) = some (.type "function")
  fd : FuncData
  ps : List Str
  F : FnOk P w K mg base CX0 1 fI fd ps (spInit2 C fl fl2)
  b : Binds K fd ps []
section
variable {P : Program} {w : World} {K : PySem.W.Frag} {mg : Str → Option Value} {base : Heap} {x qual : Str} {st : Stmt} {f : Addr} {fd : FuncData} {s v u fl gl : Str} {C : Addr}
theorem fn_init2 {p1 p2 p3 p4 p5 p6 pos pos2 : Pos} (F : Fun K x qual st f fd) (Sc : FnScope [s, v, u] [s, v, u] (defScope st)) (hb : defBody st = [.Assign [.Attribute (.Name s p1) fl p2] (.Name v p3) pos, .Assign [.Attribute (.Name s p4) gl p5] (.Name u p6) pos2]) (T : OexC K C) (hno : PySem.W.findIn K (.ref C) fl = some none) (hno2 : PySem.W.findIn K (.ref C) gl = some none)
    (d1 : (s == ("__debug__" : Str)) = false := by decide) (d2 : (s == ("__classdict__" : Str)) = false := by decide) (d3 : (v == ("__debug__" : Str)) = false := by decide) (d4 : (v == ("__classdict__" : Str)) = false := by decide) (d5 : (u == ("__debug__" : Str)) = false := by decide) (d6 : (u == ("__classdict__" : Str)) = false := by decide) : FnOk P w K mg base CX0 1 f fd [s, v, u] (spInit2 C fl gl) := by
  have vis : ∀ y ∈ [s, v, u], ∀ (H : Hp) (cdv : Value) (A : Around) (outer : List Env) (s0 : Shared) (E : XK), Vis (cxOf CX0 P w K mg base [s, v, u] qual (defScope st) f cdv A outer s0 H E).nox.env.scope y := fun y hy H cdv A outer s0 E => by
    rcases Sc.par y hy with h | h
    · exact .inl h
    · exact .inr (.inl h)
  refine F.ok Sc (fun vs H Q E ⟨a, y, z, e, _⟩ => by rw [e]; rfl) fun cdv A outer s0 H vs Q E hr ⟨a, y, z, e, ha, q⟩ => ⟨tSeq (tOst K fl (tVar 0) (tVar 1)) (tOst K gl (tVar 0) (tVar 2)), ?_, ?_⟩
  · rw [hb]
    exact pss_cons (ps_ost (X := (cxOf CX0 P w K mg base [s, v, u] qual (defScope st) f cdv A outer s0 H E).nox) (pe_var rfl (vis s (by simp) H cdv A outer s0 E) d1 d2) (pe_var rfl (vis v (by simp) H cdv A outer s0 E) d3 d4)) (pss_one (ps_ost (X := (cxOf CX0 P w K mg base [s, v, u] qual (defScope st) f cdv A outer s0 H E).nox) (pe_var rfl (vis s (by simp) H cdv A outer s0 E) d1 d2) (pe_var rfl (vis u (by simp) H cdv A outer s0 E) d5 d6)))
  · subst e
    refine ⟨y, rfl, .ref a, rfl, a, C, rfl, T, hno, .inl ⟨ha, fun dx h1 h2 => ?_⟩⟩
    refine ⟨z, rfl, .ref a, rfl, a, C, rfl, T, hno2, .inr ⟨dx, [(fl, y)], upd_same, by rw [upd_ne h2]; exact upd_same, by show 1 ≤ 900; decide, q dx h1 h2⟩⟩
def Xc2.of {h : Heap} {fld fld2 qual s v u : Str} {st : Stmt} {p1 p2 p3 p4 p5 p6 pos pos2 : Pos} (X : K.In h) (G : h.Ns mainGlobals mg) (hg : (Fa.glo x).ok K = true) (c : oexB x K = true) (cx : xhB x fld K = true) (cx2 : xhB x fld2 K = true) (Gi : Gm K (ga K x) "__init__" qual st [s, v, u]) (Sc : FnScope [s, v, u] [s, v, u] (defScope st)) (hb : defBody st = [.Assign [.Attribute (.Name s p1) fld p2] (.Name v p3) pos, .Assign [.Attribute (.Name s p4) fld2 p5] (.Name u p6) pos2])
    (d1 : (s == ("__debug__" : Str)) = false := by decide) (d2 : (s == ("__classdict__" : Str)) = false := by decide) (d3 : (v == ("__debug__" : Str)) = false := by decide) (d4 : (v == ("__classdict__" : Str)) = false := by decide) (d5 : (u == ("__debug__" : Str)) = false := by decide) (d6 : (u == ("__classdict__" : Str)) = false := by decide) : Xc2 P w K mg base x fld fld2 :=
  { C := ga K x
    g := glo_ok X G hg
    T := oex_ok c
    fI := Gi.f
    i := Gi.at
    ti := beq_iff_eq.mp Gi.fn
    fd := Gi.fd
    ps := [s, v, u]
    F := fn_init2 Gi.F Sc hb (oex_ok c) (xh_ok cx).no (xh_ok cx2).no d1 d2 d3 d4 d5 d6
    b := Gi.b }
end
section
variable {X : Xb} {x : Str} {p p2 pos : Pos} {ta : TA} {wa : WA} {e e2 : Expr}
def dRaise2 (C : Addr) (f g : Str) (wa : WA) (dX : Addr → List (Str × D) → List Sl → Prop) : WS := fun _ γ => wa γ fun ds γ1 => ∃ d1 d2, ds = [d1, d2] ∧ dX C [(g, d2), (f, d1)] γ1
theorem heap_exd2 {H1 : Hp} {a dx : Addr} {o1 o2 o3 o4 u : HO} (ha : H1 a = none) : upd (L2.del (upd (upd (upd (upd H1 a o1) dx o2) a o3) dx o4) a) dx u = upd H1 dx u := by
  funext b
  by_cases hb : b = dx
  · subst hb; rw [upd_same, upd_same]
  · rw [upd_ne hb, upd_ne hb]
    by_cases h : b = a
    · subst h; rw [L2.del_same, ha]
    · rw [L2.del_ne h, upd_ne hb, upd_ne h, upd_ne hb, upd_ne h]
theorem ds_raise2 {f g : Str} (T : Xc2 X.prog X.w X.K X.mg X.base x f g) (hfg : (f == g) = false) (tk : L2.Takes X.c X.W) (hr : Room 2 X.A) (ha : DA X [e, e2] ta wa) (hc : X.calm = true := by rfl) (hg : Gl X x := by rfl) (hdb : (x == ("__debug__" : Str)) = false := by decide)
    (hst : starEach [e, e2] X.env = (false, eval e X.env) :: starEach [e2] X.env := by rfl) (hpl : (backTo p2 (starEach [e2] X.env)).any (·.1) = false := by rfl) :
    DS X (.Raise (some (.Call (.Name x p) [e, e2] [] p2)) none pos) (fun _ σ H => tMkO T.C (spInit2 T.C f g) [] ta σ H fun cls d H' => X.W cls d σ H') (dRaise2 T.C f g wa X.dX) := by
  refine ⟨ps_raise hc tk (pmk_oex T.T T.i T.ti T.F hr T.b .nil pass0 hg T.g ha.pa hdb hst hpl), ⟨fun B S0 S H σ γ Dd D R e0 L q => ?_⟩⟩
  refine ha.sa.run B S H σ γ _ R (ha.sa.mono γ _ _ (fun ds γ1 ⟨d1, d2, e3, q⟩ vs S1 H1 R1 e1 dn => ?_) q)
  subst e3
  obtain ⟨l, hh⟩ := dn
  match vs, l, hh with
  | [v1, v2], _, hh =>
  have n1 := hh 0 v1 d1 rfl rfl
  have n2 := hh 1 v2 d2 rfl rfl
  refine ⟨by show 2 ≤ 1000; decide, fun a ha => ⟨a, v1, v2, rfl, upd_same, fun dx hdx hne => ?_⟩⟩
  have hdx1 : H1 dx = none := by rw [upd_ne hne] at hdx; exact hdx
  refine ⟨rfl, dx, [(g, v2), (f, v1)], by rw [upd_ne hne.symm]; exact upd_same, upd_same, hdx1, ?_⟩
  rw [heap_exd2 ha]
  have eS : Same S1 (upd S1 dx (.xd [(g, v2), (f, v1)])) := Same.upd (Same.refl S1) (R1.freshS hdx1)
  refine R1.x _ _ σ γ1 T.C [(g, d2), (f, d1)] (some dx) eS (R1.new hdx1).r.core (.inr ⟨dx, [(g, v2), (f, v1)], rfl, upd_same, fun h z hz => ?_⟩) q
  by_cases h1 : h = g
  · subst h1
    rw [List.lookup_cons_self] at hz ⊢
    cases hz
    exact ⟨v2, rfl, n2.mono eS⟩
  · have b : (h == g) = false := beq_eq_false_iff_ne.mpr h1
    rw [List.lookup_cons, b] at hz ⊢
    by_cases h2 : h = f
    · subst h2
      rw [List.lookup_cons_self] at hz ⊢
      cases hz
      exact ⟨v1, rfl, n1.mono eS⟩
    · have b2 : (h == f) = false := beq_eq_false_iff_ne.mpr h2
      rw [List.lookup_cons, b2] at hz
      cases hz
instance {C : Addr} {f g : Str} {dX : Addr → List (Str × D) → List Sl → Prop} {Dd : EndsD} {γ : List Sl} : Go (dRaise2 C f g wa dX Dd γ) (wa γ fun ds γ1 => ∃ d1 d2, ds = [d1, d2] ∧ dX C [(g, d2), (f, d1)] γ1) := ⟨fun z => z⟩
end
/-! ### try: ..; except A: ..; except B as n: y = (n.f, n.g) -/
section
variable {X : Xb} {body : List Stmt} {pos posA posB posE pT p1 p2 p3 p4 py npA npB : Pos} {tb : WX → TS} {wb : (Addr → List (Str × D) → List Sl → Prop) → WS} {xA xB n y f g : Str} {i j kT : Nat} {CA CB : Addr} {b₀ : Stmt} {suite : List Stmt} {tsA : Addr → Value → Option Addr → TS} {wA : WS}
def dTryTell (K : PySem.W.Frag) (CA CB : Addr) (i j : Nat) (f g : Str) (wA : WS) (wb : (Addr → List (Str × D) → List Sl → Prop) → WS) (dX : Addr → List (Str × D) → List Sl → Prop) : WS := fun Dd γ =>
  wb (fun C' fs γ1 => ∃ b, PySem.W.exmOne K (.ref C') (.ref CA) = some b ∧ (b = true → wA Dd γ1) ∧ (b = false → (C' = CB ∧ ∃ z1 z2, fs.lookup f = some z1 ∧ fs.lookup g = some z2 ∧ ∀ a, (γ1.set i (.val (.ref a)))[i]? = some (.val (.ref a)) ∧ Dd.nx (((γ1.set i (.val (.ref a))).set j (.val (.tup [z1, z2]))).set i .any)) ∨ (PySem.W.exmOne K (.ref C') (.ref CB) = some false ∧ dX C' fs γ1))) Dd γ
instance {K : PySem.W.Frag} {γ : List Sl} {Dd : EndsD} {CA CB : Addr} {i j : Nat} {f g : Str} {wA : WS} {wb : (Addr → List (Str × D) → List Sl → Prop) → WS} {dX : Addr → List (Str × D) → List Sl → Prop} : Go (dTryTell K CA CB i j f g wA wb dX Dd γ) (wb (fun C' fs γ1 => ∃ b, PySem.W.exmOne K (.ref C') (.ref CA) = some b ∧ (b = true → wA Dd γ1) ∧ (b = false → (C' = CB ∧ ∃ z1 z2, fs.lookup f = some z1 ∧ fs.lookup g = some z2 ∧ ∀ a, (γ1.set i (.val (.ref a)))[i]? = some (.val (.ref a)) ∧ Dd.nx (((γ1.set i (.val (.ref a))).set j (.val (.tup [z1, z2]))).set i .any)) ∨ (PySem.W.exmOne K (.ref C') (.ref CB) = some false ∧ dX C' fs γ1))) Dd γ) := ⟨fun z => z⟩
end
end DL
set_option Elab.async false
set_option linter.all false
set_option autoImplicit false
set_option maxRecDepth 100000
set_option maxHeartbeats 4000000
/-! DL70: boxes within boxes told as lists to any depth while lent; comprehensions over a list in a box. -/
namespace DL
open PySem PySem.Spec PyProof.Rows L2
/-- the boxes, what stands in them told n levels deep -/
def subN : Nat → Bxs → Bxs
  | 0, L => L
  | n + 1, L => fun p => match L p with
    | some (.lst es) => some (.lst (subXs (subN n L) es))
    | b => b
/-- the slots while all lists of one's own are lent, boxes told to their ground -/
def lentN (n : Nat) (L : Bxs) : List Sl → List Sl
  | [] => []
  | .own _ ds :: γ => .val (.lst (subXs (subN n L) ds)) :: lentN n L γ
  | .val d :: γ => .val (subX (subN n L) d) :: lentN n L γ
  | .ins _ _ _ :: γ => .any :: lentN n L γ
  | .hp _ _ :: γ => .any :: lentN n L γ
  | s :: γ => s :: lentN n L γ
inductive LentU (n : Nat) (L : Bxs) : Sl → Sl → Prop
  | any {s : Sl} : LentU n L s .any
  | val {d : D} : LentU n L (.val d) (.val (subX (subN n L) d))
  | own {m : Bool} {ds : List D} : LentU n L (.own m ds) (.val (.lst (subXs (subN n L) ds)))
  | scr {ns : List Int} : LentU n L (.scr ns) (.scr ns)
section
variable {X : Xb} {K : PySem.W.Frag} {B : Bs} {S H : Hp} {σ : L2.St} {γ γ' : List Sl} {L : Bxs} {n : Nat}
end
section
variable {X : Xb} {e : Expr} {te : TE} {we : WE} {tt : TT} {wt : WT} {tf : TE} {wf : WF}
def dLendNT (n h : Nat) (wt : WT) : WT := fun γ Q => ∃ m L, γ[h]? = some (.hp m L) ∧ wt (lentN n L γ) fun b _ => Q b γ
def dLendNE (n h : Nat) (we : WE) : WE := fun γ Q => ∃ m L, γ[h]? = some (.hp m L) ∧ we (lentN n L γ) fun d _ => noL d = true ∧ Q d γ
def dLendNF (n h : Nat) (wf : WF) : WF := fun γ Q => ∃ m L, γ[h]? = some (.hp m L) ∧ wf (lentN n L γ) fun ds _ => noLs ds = true ∧ Q ds γ
end
section
variable {γ : List Sl} {n h : Nat} {we : WE} {wt : WT} {wf : WF} {Q : D → List Sl → Prop} {QT : Bool → List Sl → Prop} {QF : List D → List Sl → Prop}
instance : GoH2 (dLendNT n h wt γ QT) (∃ m L, γ[h]? = some (.hp m L) ∧ wt (lentN n L γ) fun b _ => QT b γ) := ⟨fun z => z⟩
instance : GoH2 (dLendNE n h we γ Q) (∃ m L, γ[h]? = some (.hp m L) ∧ we (lentN n L γ) fun d _ => noL d = true ∧ Q d γ) := ⟨fun z => z⟩
instance : GoH2 (dLendNF n h wf γ QF) (∃ m L, γ[h]? = some (.hp m L) ∧ wf (lentN n L γ) fun ds _ => noLs ds = true ∧ QF ds γ) := ⟨fun z => z⟩
end
/-! ### a comprehension over a value's list, or over a list in a box -/
def OnIt (h : Nat) (d : D) (es : List D) (γ : List Sl) : Prop := d = .lst es ∨ ∃ q, d = .ref q ∧ OnBox h q es γ
def LcB (h : Nat) (d : D) (γ : List Sl) (wg : WG) (we : WE) (vs : List Nat) (QF : List D → List Sl → Prop) : Prop := ∃ es, OnIt h d es γ ∧ es.length ≤ sizeLine ∧ (∀ v ∈ vs, ∀ s, γ[v]? = some s → s = .any) ∧ ∃ I : Nat → List D → List Sl → Prop, I 0 [] γ ∧
  (∀ i acc γ x, es[i]? = some x → I i acc γ → OnIt h d es γ ∧ (∀ v ∈ vs, ∀ s, γ[v]? = some s → s = .any) ∧ wg x γ fun γ2 => we γ2 fun y γ4 => I (i + 1) (acc ++ [y]) (wipeG γ4 vs)) ∧
  ∀ acc γ, I es.length acc γ → OnIt h d es γ ∧ (∀ v ∈ vs, ∀ s, γ[v]? = some s → s = .any) ∧ QF acc γ
def dLcB (h : Nat) (wi : WE) (wg : WG) (we : WE) (vs : List Nat) : WF := fun γ Q => wi γ fun d γ1 => LcB h d γ1 wg we vs Q
section
variable {X : Xb}
end
section
variable {γ : List Sl} {h : Nat} {wi : WE} {wg : WG} {we : WE} {vs : List Nat} {QF : List D → List Sl → Prop}
instance : Go (dLcB h wi wg we vs γ QF) (wi γ fun d γ1 => LcB h d γ1 wg we vs QF) := ⟨fun z => z⟩
end
/-! ### *items among arguments, the items in a box perhaps -/
section
variable {X : Xb} {e : Expr} {es : List Expr} {te : TE} {we : WE} {t : TA} {w : WA} {p : Pos}
def dStarB (h : Nat) (we : WE) (w : WA) : WA := fun γ Q => we γ fun d γ1 => ∃ xs, OnIt h d xs γ1 ∧ w γ1 fun ds γ2 => Q (xs ++ ds) γ2
end
section
variable {γ : List Sl} {h : Nat} {we : WE} {w : WA} {Q : List D → List Sl → Prop}
instance : Go (dStarB h we w γ Q) (we γ fun d γ1 => ∃ xs, OnIt h d xs γ1 ∧ w γ1 fun ds γ2 => Q (xs ++ ds) γ2) := ⟨fun z => z⟩
end
end DL
set_option Elab.async false
set_option linter.all false
set_option autoImplicit false
set_option maxRecDepth 100000
set_option maxHeartbeats 4000000
/-! DL71: list(reversed(x)), x a list. -/
namespace DL
open PySem PySem.Spec PyProof.Rows L2 RT
section
variable {pr : Program} {wo : World} {Ar : Around} {st : Shared} {Rs : Result → Shared → Prop} {Er : Value → Shared → Prop}
end
def tListRev (K : PySem.W.Frag) (te : TE) : TE := fun σ H Q => te σ H fun v H1 => ∃ (a : Addr) (xs : List V), v = .ref a ∧ SqL K H1 a xs ∧ ∀ q, H1 q = none → Q (.ref q) (upd H1 q (.lst xs.reverse))
section
variable {X : Cx}
end
def dListRev (we : WE) : WF := fun γ Q => we γ fun d γ1 => ∃ ds, d = .lst ds ∧ Q ds.reverse γ1
section
variable {X : Xb}
end
section
variable {γ : List Sl} {we : WE} {QF : List D → List Sl → Prop}
instance : Go (dListRev we γ QF) (we γ fun d γ1 => ∃ ds, d = .lst ds ∧ QF ds.reverse γ1) := ⟨fun z => z⟩
end
end DL
set_option Elab.async false
set_option linter.all false
set_option autoImplicit false
set_option maxRecDepth 100000
set_option maxHeartbeats 4000000
/-! DL72: texts read: t[i], t[i:j], t.split(s), t.startswith(s), t.endswith(s), s in t, int(t), a module's text. -/
namespace DL
open PySem PySem.Spec PyProof.Rows L2
section
variable {X : Xb} {a b e o : Expr} {ta tb te to : TE} {wa wb we wo : WE} {pos apos : Pos}
/-- t[i] -/
def itemS (x y : D) (Q : D → Prop) : Prop := ∃ (z : Str) (i : Int) (c : Nat), x = .str z ∧ y = .int i ∧ z.length ≤ sizeLine ∧ atI z.cps.toList i = some c ∧ Q (.str ⟨#[c]⟩)
/-- t[i:j] -/
def dSlX (wa : WE) (wl wh : WO) : WE := fun γ Q => wa γ fun x γ1 => wl γ1 fun l γ2 => wh γ2 fun h γ3 => ∃ z : Str, x = .str z ∧ z.length ≤ sizeLine ∧ Q (.str (cutS z l h)) γ3
/-- methods of a text that tell a Bool -/
def dTxB (f : Str → Str → Bool) (wo we : WE) : WE := fun γ Q => wo γ fun x γ1 => (∃ a, x = .str a) ∧ we γ1 fun y γ2 => ∃ a b : Str, x = .str a ∧ y = .str b ∧ Q (.bl (f a b)) γ2
/-- t.split(s): a new list -/
def dSplit (wo we : WE) : WF := fun γ Q => wo γ fun x γ1 => (∃ a, x = .str a) ∧ we γ1 fun y γ2 => ∃ a b : Str, x = .str a ∧ y = .str b ∧ (b.length == 0) = false ∧ a.length + 2 ≤ sizeLine ∧ Q ((Txt.split a b).map D.str) γ2
/-- s in t -/
def inTD (x y : D) (Q : D → Prop) : Prop := ∃ i j : Str, x = .str i ∧ y = .str j ∧ Q (.bl (!(Builtin.Str.occurrences j i 0 j.length 1).isEmpty))
/-- len(text) -/
def lenTD (ds : List D) (Q : D → Prop) : Prop := ∃ z : Str, ds = [.str z] ∧ z.length ≤ sizeLine ∧ Q (.int z.length)
/-- int(text) -/
def intTD (ds : List D) (Q : D → Prop) : Prop := ∃ (a : Str) (n : Int), ds = [.str a] ∧ PySem.intText? a = some n ∧ a.length ≤ 640 ∧ Q (.int n)
end
section
variable {γ : List Sl} {wo we wa : WE} {wl wh : WO} {Q : D → List Sl → Prop} {QF : List D → List Sl → Prop} {f : Str → Str → Bool}
instance : Go (dTxB f wo we γ Q) (wo γ fun x γ1 => (∃ a, x = .str a) ∧ we γ1 fun y γ2 => ∃ a b : Str, x = .str a ∧ y = .str b ∧ Q (.bl (f a b)) γ2) := ⟨fun z => z⟩
instance : Go (dSplit wo we γ QF) (wo γ fun x γ1 => (∃ a, x = .str a) ∧ we γ1 fun y γ2 => ∃ a b : Str, x = .str a ∧ y = .str b ∧ (b.length == 0) = false ∧ a.length + 2 ≤ sizeLine ∧ QF ((Txt.split a b).map D.str) γ2) := ⟨fun z => z⟩
instance : Go (dSlX wa wl wh γ Q) (wa γ fun x γ1 => wl γ1 fun l γ2 => wh γ2 fun h γ3 => ∃ z : Str, x = .str z ∧ z.length ≤ sizeLine ∧ Q (.str (cutS z l h)) γ3) := ⟨fun z => z⟩
end
end DL
set_option Elab.async false
set_option linter.all false
set_option autoImplicit false
set_option maxRecDepth 100000
set_option maxHeartbeats 4000000
/-! DL73: i in range(n). -/
namespace DL
open PySem PySem.Spec PyProof.Rows L2
section
variable {X : Xb} {a b : Expr} {ta tb : TE} {wa wb : WE} {pos p2 p3 : Pos}
def rRange1 : List V → Hp → VK → Prop := fun vs H Q => ∃ j, vs = [V.int j] ∧ ∀ p, H p = none → Q (.ref p) (upd H p (.rng 0 j))
/-- i in range(n) -/
def rInRng : R2 := fun x y H Q => ∃ i a lo hi, x = V.int i ∧ y = V.ref a ∧ H a = some (.rng lo hi) ∧ Q (.bl (decide (lo ≤ i ∧ i < hi))) H
def dInRng (wa wb : WE) : WE := fun γ Q => wa γ fun x γ1 => (∃ i, x = .int i) ∧ wb γ1 fun y γ2 => ∃ i n, x = .int i ∧ y = .int n ∧ Q (.bl (decide (0 ≤ i ∧ i < n))) γ2
end
section
variable {γ : List Sl} {wa wb : WE} {Q : D → List Sl → Prop}
instance : Go (dInRng wa wb γ Q) (wa γ fun x γ1 => (∃ i, x = .int i) ∧ wb γ1 fun y γ2 => ∃ i n, x = .int i ∧ y = .int n ∧ Q (.bl (decide (0 ≤ i ∧ i < n))) γ2) := ⟨fun z => z⟩
end
end DL
set_option Elab.async false
set_option linter.all false
set_option autoImplicit false
set_option maxRecDepth 100000
set_option maxHeartbeats 4000000
/-! DL74: a promise that may raise, kept where nothing is raised. -/
namespace DL
open PySem PySem.Spec PyProof.Rows L2
section
variable {P : Program} {w : World} {K : PySem.W.Frag} {mg : Str → Option Value} {base : Heap} {k : Nat} {f : Addr} {fd : FuncData} {ps : List Str}
theorem cr_calm {outer : List Env} {H : Hp} {s : Shared} {Q : VK} {E : XK} (r : Result) (s' : Shared) (h : CR (L2.CX P w) outer P w H s Q E0 r s') : CR CX0 outer P w H s Q E r s' := by
  cases r with
  | ok x => cases x <;> exact h
  | error e =>
    obtain ⟨_, _, _, _, _, _, _, _, _, _, _, _, z⟩ := h
    exact z
theorem calm {s : SpecX} {s' : SpecD} (F : FnOk P w K mg base (L2.CX P w) k f fd ps (spX K s)) (h : ∀ ds Q E, s'.S ds Q → s.S ds Q E) : FnOk P w K mg base CX0 k f fd ps (spV K s') := by
  have hs : ∀ vs H Q E, spV K s' vs H Q E → spX K s vs H Q E0 := fun vs H Q E ⟨S, ds, e, d, q⟩ => ⟨S, ds, e, d, h _ _ _ q⟩
  exact ⟨fun vs H Q E z => F.len vs H Q E0 (hs _ _ _ _ z), fun A outer s H args us vs Q E hr e b r z => codeAny_mono (F.run A outer s H args us vs Q E0 hr e b r (hs _ _ _ _ z)) fun r s' => cr_calm r s'⟩
end
end DL
set_option Elab.async false
set_option linter.all false
set_option autoImplicit false
set_option maxRecDepth 100000
set_option maxHeartbeats 4000000
/-! DL75: calls with one keyword, the other by its default, in code that raises nothing. -/
namespace DL
open PySem PySem.Spec PyProof.Rows L2
section
variable {X : Xb} {K : PySem.W.Frag} {f : Addr} {fd : FuncData} {ps ks : List Str} {k n : Nat} {x nm : Str} {e : Expr} {es : List Expr} {te : TE} {we : WE} {t tk : TA} {w wk : WA} {p pos kpos : Pos} {kws : List Keyword} {s : SpecD} {gu : List Value → List Value → List Value} {gv : List V → List V → List V} {gd : List D → List D → List D}
def dCallKV (n m : Nat) (gd : List D → List D → List D) (s : SpecD) (w wk : WA) : WE := fun γ Q => w γ fun ds γ1 => wk γ1 fun es γ2 => ds.length = n ∧ es.length = m ∧ s.S (gd ds es) fun r => Q r.val γ2
instance {m : Nat} {γ : List Sl} {Q : D → List Sl → Prop} : Go (dCallKV n m gd s w wk γ Q) (w γ fun ds γ1 => wk γ1 fun es γ2 => ds.length = n ∧ es.length = m ∧ s.S (gd ds es) fun r => Q r.val γ2) := ⟨fun z => z⟩
end
end DL
set_option Elab.async false
set_option linter.all false
set_option autoImplicit false
set_option maxRecDepth 100000
set_option maxHeartbeats 4000000
/-! DL76: texts: t.strip(s), t.lstrip(s), t.upper(), t * n. -/
namespace DL
open PySem PySem.Spec PyProof.Rows L2
/-- a text repeated -/
def repS (z : Str) : Nat → Str
  | 0 => Str.empty
  | n + 1 => z ++ repS z n
section
variable {X : Cx}
def rRepS : R2 := fun x y H Q => ∃ (z : Str) (k : Int), x = .str z ∧ y = .int k ∧ (0 ≤ k ∧ k ≤ 1000) ∧ z.length ≤ 1000 ∧ Q (.str (repS z k.toNat)) H
end
section
variable {X : Xb} {a b e o : Expr} {ta tb te to : TE} {wa wb we wo : WE} {pos apos : Pos}
def repSD (x y : D) (Q : D → Prop) : Prop := ∃ (z : Str) (k : Int), x = .str z ∧ y = .int k ∧ (0 ≤ k ∧ k ≤ 1000) ∧ z.length ≤ 1000 ∧ Q (.str (repS z k.toNat))
/-- methods of a text with one text that tell a text -/
def dTxS (f : Str → Str → Str) (wo we : WE) : WE := fun γ Q => wo γ fun x γ1 => (∃ a, x = .str a) ∧ we γ1 fun y γ2 => ∃ a b : Str, x = .str a ∧ y = .str b ∧ a.length ≤ sizeLine ∧ Q (.str (f a b)) γ2
/-- methods of a text alone that tell a text -/
def dTxU (f : Str → Str) (wo : WE) : WE := fun γ Q => wo γ fun x γ1 => ∃ a : Str, x = .str a ∧ a.length ≤ 5592405 ∧ Q (.str (f a)) γ1
end
section
variable {γ : List Sl} {wo we : WE} {Q : D → List Sl → Prop} {f : Str → Str → Str} {g : Str → Str}
instance : Go (dTxS f wo we γ Q) (wo γ fun x γ1 => (∃ a, x = .str a) ∧ we γ1 fun y γ2 => ∃ a b : Str, x = .str a ∧ y = .str b ∧ a.length ≤ sizeLine ∧ Q (.str (f a b)) γ2) := ⟨fun z => z⟩
instance : Go (dTxU g wo γ Q) (wo γ fun x γ1 => ∃ a : Str, x = .str a ∧ a.length ≤ 5592405 ∧ Q (.str (g a)) γ1) := ⟨fun z => z⟩
end
end DL
set_option Elab.async false
set_option linter.all false
set_option autoImplicit false
set_option maxRecDepth 100000
set_option maxHeartbeats 4000000
/-! DL77: exceptions kept as values: an object in a box (exc), its dict in a box (xd); isinstance; fields. -/
namespace DL
open PySem PySem.Spec PyProof.Rows L2
section
variable {X : Cx}
/-- X(), an own class without an own __init__, as a value -/
theorem pe_own0v {C : Addr} {bmB : List Value} {B newId initId : String} {x : Str} {p pos : Pos} (F : ExcBaseFacts B newId initId bmB) (q : PySem.W.excIn X.K C bmB newId = true) (gC : X.mg x = some (.ref C)) (kC : PySem.W.keepIn X.K (.ref C) = true) (hg : Gl X x)
    (hdb : (x == ("__debug__" : Str)) = false := by decide) : PE X (.Call (.Name x p) [] [] pos) (fun _ H Q => ∀ a, H a = none → Q (.ref a) (upd H a (exo a C none))) := by
  refine ⟨fun pins s σ H Q I h => ?_⟩
  refine wpAny_Call_Name_kw (ld_glob I hg gC ?_ hdb)
  refine PySem.W.callWith_K0 I.kIn kC ?_
  obtain ⟨bm, N, nm, qn, bs, hdct, sn, sub, ab, col, dd, k0, k1, k2, k3, k5, mN, hC, hN, hni, T⟩ := exc_obj I.kIn q
  refine wpAny_call_exc_subT F T hC hN hni (fun h' a hm => ?_) (by show 0 ≤ sizeLine; exact Nat.zero_le _)
  have hn : H a = none := I.hok.gone hm.new
  obtain ⟨t, ht, _, _⟩ := hm.there
  exact ⟨.ref a, upd H a (exo a C none), I.laidN hm.keeps hm.new hn (exo_ok ht), rfl, h a hn⟩
/-- X(e, ..), an own class with an own __init__, as a value -/
def tMkV (C : Addr) (sp : Sp) (ta : TA) : TE := fun σ H Q => ta σ H fun vs H1 => vs.length ≤ 1000 ∧ ∀ a, H1 a = none → sp (.ref a :: vs) (upd H1 a (exo a C none)) (fun v H2 => v = .non ∧ Q (.ref a) H2) (fun _ _ _ => False)
theorem pe_oexv {CX : CXT} {x : Str} {C fI : Addr} {k : Nat} {fd : FuncData} {ps : List Str} {sp : Sp} {e : Expr} {es : List Expr} {ta : TA} {p pos : Pos} (T : OexC X.K C) (iC : PySem.W.findIn X.K (.ref C) "__init__" = some (some (.ref fI))) (tI : PySem.W.typeIn X.K (.ref fI) = some (.type "function"))
    (F1 : FnOk X.prog X.w X.K X.mg X.base CX k fI fd ps sp) (hr : Room (k + 1) X.A) (hb : Binds X.K fd ps []) (hx : Passes CX X (fun _ _ _ => False)) (hg : Gl X x) (hm : X.mg x = some (.ref C)) (ha : PA X (e :: es) ta)
    (hdb : (x == ("__debug__" : Str)) = false := by decide) (he : starEach (e :: es) X.env = (false, eval e X.env) :: starEach es X.env := by rfl) (hpl : (backTo pos (starEach es X.env)).any (·.1) = false := by rfl) :
    PE X (.Call (.Name x p) (e :: es) [] pos) (tMkV C sp ta) := by
  refine ⟨fun pins s σ H Q I h => ?_⟩
  obtain ⟨nm, q, N, bs, bm, sn, sub, ab, col, dd, k0, k1, k2, k3, k5, hC, hbm⟩ := T.cls
  refine wpAny_Call_Name_kw (ld_glob I hg hm ?_ hdb)
  refine PySem.W.callWith_K (h₀ := X.base) I.ok.mod.kin T.kC (thn (ha.run pos pins s σ H _ I h) fun us s1 ⟨vs, H1, I1, r1, hz, q1⟩ => ⟨I1.kIn, ?_⟩) he hpl
  show wpAny _ _ (call (.ref C) us) _ _ _
  obtain ⟨hp, g, dr, tk, os⟩ := s1
  have hsz : hp.objs.size ≤ hp.objs.size + 1 := Nat.le_succ _
  have hn : H1 (hp.objs.size + 1) = none := I1.hok.fresh hsz
  have hq := q1 (hp.objs.size + 1) hn
  have kk : ∀ b o, hp.get? b = some o → ((hp.push (PySem.W.kdv_tup us)).push (PySem.HandSPX.excO C hp.objs.size)).get? b = some o := fun b o e => Heap.get?_push_of_some _ (Heap.get?_push_of_some _ e)
  have hget : ((hp.push (PySem.W.kdv_tup us)).push (PySem.HandSPX.excO C hp.objs.size)).get? (hp.objs.size + 1) = some (PySem.HandSPX.excO C hp.objs.size) := by heap_get
  have I2 : Inv X pins σ (upd H1 (hp.objs.size + 1) (exo (hp.objs.size + 1) C none)) ⟨(hp.push (PySem.W.kdv_tup us)).push (PySem.HandSPX.excO C hp.objs.size), g, dr, tk, os⟩ :=
    I1.laid (t' := tk) (a := hp.objs.size + 1) (o := exo (hp.objs.size + 1) C none) (h' := (hp.push (PySem.W.kdv_tup us)).push (PySem.HandSPX.excO C hp.objs.size)) kk hsz (exo_ok hget)
  have r2 : Vals (V.ref (hp.objs.size + 1) :: vs) (Value.ref (hp.objs.size + 1) :: us) := .cons rfl r1
  have r2' : Vals (V.ref (hp.objs.size + 1) :: vs) (Value.ref (hp.objs.size + 1) :: (us ++ [])) := by rw [List.append_nil]; exact r2
  have hl : (Value.ref (hp.objs.size + 1) :: us ++ []).length = ps.length := by
    have e := r2'.length
    rw [F1.len _ _ _ _ hq] at e
    rw [List.append_nil] at e ⊢
    exact e.symm
  have hbt := hb ⟨(hp.push (PySem.W.kdv_tup us)).push (PySem.HandSPX.excO C hp.objs.size), g, dr, tk, os⟩ (Value.ref (hp.objs.size + 1) :: us) I2.kIn hl
  rw [List.cons_append] at hbt
  have hus : us.length ≤ sizeLine := by
    rw [← Paired.length r1, sizeLine_eq]
    omega
  refine wpAny_call (PySem.HandSPX.call_own F.excBase_ValueError (fun Y => PySem.HandSPX.refsVE_contains Y bm hbm) (I1.kIn _ _ hC) (PySem.W.looks_findIn I1.kIn iC) (fun self => PySem.W.bind_fn I1.kIn self tI) hus
    (codeAny_mono (F1.run _ X.stack _ _ ⟨Value.ref (hp.objs.size + 1) :: us, []⟩ (Value.ref (hp.objs.size + 1) :: (us ++ [])) _ _ (fun _ _ _ => False) (hr.make C us []) (I2.env0.make C us []) hbt r2' hq) fun r s' hq' => ?_))
  cases r with
  | error er => exact hx pins σ _ _ er s' I2 hq'
  | ok fl =>
    cases fl with
    | ret u =>
      obtain ⟨v, H2, os2, bare2, un2, hok2, rv, ev, q2⟩ := hq'
      subst ev
      exact ⟨rv, .ref (hp.objs.size + 1), H2, I2.call' (ch := []) os2 un2 hok2 bare2 (fun b z => absurd z (by simp)), rfl, q2⟩
    | next => exact False.elim hq'
    | brk => exact False.elim hq'
    | cont => exact False.elim hq'
/-- a class or a type of the builtins -/
def tyW : V → Value
  | .ref a => .ref a
  | .ty n => .type n
  | _ => .none
def dxOk (H : Hp) (d : Option Addr) : Prop := d = none ∨ ∃ dd ws, d = some dd ∧ H dd = some (exd dd ws)
theorem inst_exo {pins : List (Addr × Obj)} {σ : L2.St} {H : Hp} {s : Shared} {a C : Addr} {d : Option Addr} (I : Inv X pins σ H s) (ha : H a = some (exo a C d)) (hd : dxOk H d) : ∃ oe od, PySem.W.InstAt s.heap a oe C od := by
  obtain ⟨⟨t1, hget⟩, _, _⟩ := I.hok a _ ha
  rcases hd with rfl | ⟨dd, ws, rfl, hw⟩
  · exact ⟨_, none, hget, rfl, rfl, trivial⟩
  · obtain ⟨mA, hns, hr⟩ := exd_at I.hok hw
    obtain ⟨od, hod, hl⟩ := lookIn_ns hns
    exact ⟨_, some od, hget, rfl, rfl, hod⟩
def rIsV (K : PySem.W.Frag) : List V → Hp → VK → Prop := fun xs H Q => ∃ (a C : Addr) (d : Option Addr) (T : V) (b : Bool), xs = [.ref a, T] ∧ ((∃ c, T = .ref c) ∨ ∃ n, T = .ty n) ∧ H a = some (exo a C d) ∧ dxOk H d ∧ XisC K C ∧ PySem.W.kitOne K (.ref C) (tyW T) = some b ∧ Q (.bl b) H
theorem call_isV : CallR X (.builtin "isinstance") (rIsV X.K) := by
  intro pins s σ H xs us Q I r h
  obtain ⟨a, C, d, T, b, rfl, hT, ha, hd, E, e, q⟩ := h
  obtain ⟨u1, u2, rfl, r1, r2⟩ := vals2 r
  obtain rfl : u1 = Value.ref a := r1
  have e2 : u2 = tyW T := by
    rcases hT with ⟨c, rfl⟩ | ⟨n, rfl⟩
    · exact r2
    · exact r2
  subst e2
  obtain ⟨oe, od, J⟩ := inst_exo I ha hd
  exact PySem.W.kia_one (PySem.W.kitx_exc E.cl E.ga E.gg E.sb E.ca E.gt E.tk E.ob) I.kIn J e (fun z => nomatch z) fun tk => ⟨.bl b, H, I.kept (t' := tk) fun _ _ z => z, rfl, q⟩
/-- x.f, x an exception with its dict -/
def tXv (K : PySem.W.Frag) (f : Str) (te : TE) : TE := fun σ H Q => te σ H fun x H1 => ∃ (a C dd : Addr) (fs : List (Str × V)) (v : V), x = .ref a ∧ H1 a = some (exo a C (some dd)) ∧ H1 dd = some (exd dd fs) ∧ XfC K C ∧ PySem.W.findIn K (.ref C) f = some none ∧ fs.lookup f = some v ∧ Q v H1
theorem pe_xv {e : Expr} {te : TE} {pos : Pos} {n : Str} (he : PE X e te) (hb : attributeBase e n X.env (eval e X.env) = eval e X.env := by rfl) : PE X (.Attribute e n pos) (tXv X.K n te) := by
  refine ⟨fun pins s σ H Q I h => ?_⟩
  refine attr_of hb (thn (he.run pins s σ H _ I h) fun u s1 hh => ?_)
  obtain ⟨x, H1, I1, rx, a, C, dd, fs, v, ex, ha, hd, T, hno, l, q⟩ := hh
  subst ex
  obtain rfl : u = Value.ref a := rx
  obtain ⟨⟨t1, hget⟩, _, _⟩ := I1.hok a _ ha
  obtain ⟨mA, hns, hr⟩ := exd_at I1.hok hd
  obtain ⟨od, ho, hl⟩ := lookIn_ns hns
  obtain ⟨u, hu, ru⟩ := RelO.some_of (v := v) (o := mA n) (by rw [← l]; exact hr n)
  have J : PySem.W.InstAt s1.heap a _ C (some od) := ⟨hget, rfl, rfl, ho⟩
  exact HandSPX.exc_get I1.kIn J T.ga T.gg T.exC (PySem.W.findObj_own T.hdC hno rfl (by rw [hl, hu])) (handed_of ru) ⟨v, H1, I1.tok _, ru, q⟩
end
section
variable {X : Xb} {K : PySem.W.Frag} {e : Expr} {es : List Expr} {te : TE} {we : WE} {ta : TA} {wa : WA} {x y f g : Str} {p p2 pos py : Pos} {T : V}
/-- C() in a box -/
def dNewX0 (h : Nat) (C : Addr) : WE := fun γ Q => ∃ m L, γ[h]? = some (.hp m L) ∧ ∀ p, L p = none → Q (.ref p) (γ.set h (.hp m (updB L p (.exc p C none))))
theorem de_newX0 (h : Nat) (T : Xc0 X.K X.mg x) (hg : Gl X x := by rfl) (hdb : (x == ("__debug__" : Str)) = false := by decide) : DE X (.Call (.Name x p) [] [] pos) (fun _ H Q => ∀ a, H a = none → Q (.ref a) (upd H a (exo a T.C none))) (dNewX0 h T.C) := by
  refine ⟨pe_own0v PySem.F.excBase_ValueError T.q T.g T.k hg hdb, fun γ P P' k ⟨m, L, g, q⟩ => ⟨m, L, g, fun p hp => k _ _ (q p hp)⟩, fun B S H σ γ Q R ⟨m, L, g, q⟩ a ha => ?_⟩
  obtain ⟨R2, hp⟩ := (R.newF (o := exo a T.C none) ha).addB (b := .exc a T.C none) g rfl
  exact q a hp (.ref a) S _ R2 (Same.refl S) (.ref a)
theorem upd_swap3 {H : Hp} {a b : Addr} {o1 o2 o3 : HO} (h : b ≠ a) : upd (upd (upd H a o1) b o2) a o3 = upd (upd H b o2) a o3 := by
  funext c
  by_cases hc : c = a
  · subst hc; rw [upd_same, upd_same]
  · rw [upd_ne hc, upd_ne hc]
    by_cases hb : c = b
    · subst hb; rw [upd_same, upd_same]
    · rw [upd_ne hb, upd_ne hb, upd_ne hc]
theorem upd_swap4 {H : Hp} {a b : Addr} {o1 o2 o3 o4 : HO} (h : b ≠ a) : upd (upd (upd (upd H a o1) b o2) a o3) b o4 = upd (upd H b o4) a o3 := by
  rw [upd_swap3 h]
  funext c
  by_cases hc : c = b
  · subst hc; rw [upd_same, upd_ne h, upd_same]
  · rw [upd_ne hc]
    by_cases ha : c = a
    · subst ha; rw [upd_same, upd_same]
    · rw [upd_ne ha, upd_ne ha, upd_ne hc, upd_ne hc]
/-- C(e) in a box, its dict in another one -/
def dNewX1 (h : Nat) (C : Addr) (f : Str) (we : WE) : WE := fun γ Q => we γ fun d γ1 => ∃ m L, γ1[h]? = some (.hp m L) ∧ ∀ p dd, L p = none → L dd = none → p ≠ dd → Q (.ref p) (γ1.set h (.hp m (updB (updB L dd (.xd dd [(f, d)])) p (.exc p C (some dd)))))
/-- the two new objects, put into boxes -/
theorem Rel.addX {B : Bs} {S H : Hp} {σ : L2.St} {γ : List Sl} {h : Nat} {m : Bool} {L : Bxs} {a dx C : Addr} {ws : List (Str × V)} {fs : List (Str × D)} (R : Rel X B S H σ γ) (g : γ[h]? = some (.hp m L)) (ha : H a = none) (hdx : H dx = none) (hne : dx ≠ a) (hf : DenF S ws fs) :
    Rel X B S (upd (upd H dx (exd dx ws)) a (exo a C (some dx))) σ (γ.set h (.hp m (updB (updB L dx (.xd dx fs)) a (.exc a C (some dx))))) ∧ L a = none ∧ L dx = none := by
  obtain ⟨R2, h2⟩ := (R.newF (o := exd dx ws) hdx).addB (b := .xd dx fs) g ⟨ws, rfl, hf⟩
  have hlen : h < γ.length := (List.getElem?_eq_some_iff.mp g).1
  have g2 : (γ.set h (.hp m (updB L dx (.xd dx fs))))[h]? = some (.hp m (updB L dx (.xd dx fs))) := List.getElem?_set_self hlen
  obtain ⟨R3, h3⟩ := (R2.newF (p := a) (o := exo a C (some dx)) (by rw [upd_ne hne.symm]; exact ha)).addB (b := .exc a C (some dx)) g2 rfl
  rw [List.set_set] at R3
  rw [updB_ne hne.symm] at h3
  exact ⟨R3, h3, h2⟩
theorem de_newX1 (h : Nat) (T : Xc1 X.prog X.w X.K X.mg X.base x f) (hr : Room 2 X.A) (he : DE X e te we) (hg : Gl X x := by rfl) (hdb : (x == ("__debug__" : Str)) = false := by decide)
    (hst : starEach [e] X.env = (false, eval e X.env) :: starEach [] X.env := by rfl) (hpl : (backTo pos (starEach [] X.env)).any (·.1) = false := by rfl) :
    DE X (.Call (.Name x p) [e] [] pos) (tMkV T.C (spInit1 T.C f) (tCons te tNil)) (dNewX1 h T.C f we) := by
  refine ⟨pe_oexv T.T T.i T.ti T.F hr T.b pass0 hg T.g (pa_cons he.pe pa_nil hst) hdb hst hpl, fun γ P P' k q => he.se.mono γ _ _ (fun d γ1 ⟨m, L, g, q⟩ => ⟨m, L, g, fun p dd h1 h2 h3 => k _ _ (q p dd h1 h2 h3)⟩) q, fun B S H σ γ Q R q => ?_⟩
  refine he.se.run B S H σ γ _ R (he.se.mono γ _ _ (fun d γ1 ⟨m, L, gh, q⟩ v S1 H1 R1 e1 d1 => ?_) q)
  refine ⟨by show 1 ≤ 1000; decide, fun a ha => ⟨a, v, rfl, upd_same, fun dx hdx hne => ⟨rfl, ?_⟩⟩⟩
  have hdx1 : H1 dx = none := by rw [upd_ne hne] at hdx; exact hdx
  rw [upd_swap3 hne]
  obtain ⟨R2, l1, l2⟩ := R1.addX (C := T.C) gh ha hdx1 hne (.cons (x := (f, v)) (d := (f, d)) rfl d1 .nil)
  exact q a dx l1 l2 hne.symm (.ref a) S1 _ R2 e1 (.ref a)
/-- C(e, e2) -/
def dNewX2 (h : Nat) (C : Addr) (f g : Str) (wa : WA) : WE := fun γ Q => wa γ fun ds γ1 => ∃ d1 d2, ds = [d1, d2] ∧ ∃ m L, γ1[h]? = some (.hp m L) ∧ ∀ p dd, L p = none → L dd = none → p ≠ dd → Q (.ref p) (γ1.set h (.hp m (updB (updB L dd (.xd dd [(g, d2), (f, d1)])) p (.exc p C (some dd)))))
theorem de_newX2 (h : Nat) (T : Xc2 X.prog X.w X.K X.mg X.base x f g) (hr : Room 2 X.A) (ha : DA X (e :: es) ta wa) (hg : Gl X x := by rfl) (hdb : (x == ("__debug__" : Str)) = false := by decide)
    (hst : starEach (e :: es) X.env = (false, eval e X.env) :: starEach es X.env := by rfl) (hpl : (backTo pos (starEach es X.env)).any (·.1) = false := by rfl) :
    DE X (.Call (.Name x p) (e :: es) [] pos) (tMkV T.C (spInit2 T.C f g) ta) (dNewX2 h T.C f g wa) := by
  refine ⟨pe_oexv T.T T.i T.ti T.F hr T.b pass0 hg T.g ha.pa hdb hst hpl, fun γ P P' k q => ha.sa.mono γ _ _ (fun ds γ1 ⟨d1, d2, e, m, L, g, q⟩ => ⟨d1, d2, e, m, L, g, fun p dd h1 h2 h3 => k _ _ (q p dd h1 h2 h3)⟩) q, fun B S H σ γ Q R q => ?_⟩
  refine ha.sa.run B S H σ γ _ R (ha.sa.mono γ _ _ (fun ds γ1 ⟨d1, d2, e3, m, L, gh, q⟩ vs S1 H1 R1 e1 dn => ?_) q)
  subst e3
  obtain ⟨l, hh⟩ := dn
  match vs, l, hh with
  | [v1, v2], _, hh =>
  have n1 := hh 0 v1 d1 rfl rfl
  have n2 := hh 1 v2 d2 rfl rfl
  refine ⟨by show 2 ≤ 1000; decide, fun a ha => ⟨a, v1, v2, rfl, upd_same, fun dx hdx hne => ⟨rfl, ?_⟩⟩⟩
  have hdx1 : H1 dx = none := by rw [upd_ne hne] at hdx; exact hdx
  rw [upd_swap4 hne]
  obtain ⟨R2, l1, l2⟩ := R1.addX (C := T.C) gh ha hdx1 hne (.cons (x := (g, v2)) (d := (g, d2)) rfl n2 (.cons (x := (f, v1)) (d := (f, d1)) rfl n1 .nil))
  exact q a dx l1 l2 hne.symm (.ref a) S1 _ R2 e1 (.ref a)
/-- an exception in a box, its dict in a box too -/
def excAt (L : Bxs) (a C : Addr) (d : Option Addr) : Prop := L a = some (.exc a C d) ∧ (d = none ∨ ∃ dd fs, d = some dd ∧ L dd = some (.xd dd fs))
theorem Rel.excAt {B : Bs} {S H : Hp} {σ : L2.St} {γ : List Sl} {h : Nat} {m : Bool} {L : Bxs} {a C : Addr} {d : Option Addr} (R : Rel X B S H σ γ) (g : γ[h]? = some (.hp m L)) (k : DL.excAt L a C d) : H a = some (exo a C d) ∧ dxOk H d := by
  refine ⟨?_, ?_⟩
  · obtain ⟨_, hb⟩ := R.boxAt g k.1
    cases e : H a with
    | none => rw [e] at hb; exact hb.elim
    | some o => rw [e] at hb; rw [show o = exo a C d from hb]
  · rcases k.2 with z | ⟨dd, fs, z, l⟩
    · exact .inl z
    · obtain ⟨_, hb⟩ := R.boxAt g l
      cases e : H dd with
      | none => rw [e] at hb; exact hb.elim
      | some o =>
        rw [e] at hb
        obtain ⟨vs, rfl, _⟩ := hb
        exact .inr ⟨dd, vs, z, e⟩
/-- isinstance(x, T), x an exception in a box -/
def dIsE (K : PySem.W.Frag) (h : Nat) (T : V) (we : WE) : WE := fun γ Q => we γ fun z γ1 => ∃ m L a C d b, z = .ref a ∧ γ1[h]? = some (.hp m L) ∧ excAt L a C d ∧ XisC K C ∧ PySem.W.kitOne K (.ref C) (tyW T) = some b ∧ Q (.bl b) γ1
theorem de_isE (K' : PySem.W.Frag) (h : Nat) (he : DE X e te we) (pT : PE X (.Name y py) (tC T)) (hT : (∃ c, T = .ref c) ∨ ∃ n, T = .ty n) (hm : X.mg "isinstance" = none) (hg : Gl X "isinstance" := by rfl)
    (h1 : starEach [e, Expr.Name y py] X.env = (false, eval e X.env) :: starEach [Expr.Name y py] X.env := by rfl) (h2 : starEach [Expr.Name y py] X.env = (false, eval (Expr.Name y py) X.env) :: starEach [] X.env := by rfl) (hpl : (backTo pos (starEach [Expr.Name y py] X.env)).any (·.1) = false := by rfl) (hK : X.K = K' := by rfl) :
    DE X (.Call (.Name "isinstance" p) [e, .Name y py] [] pos) (tCB (rIsV K') (tCons te (tCons (tC T) tNil))) (dIsE K' h T we) := by
  subst hK
  refine ⟨pe_callB call_isV hg hm (by decide +kernel) (pa_cons he.pe (pa_cons pT pa_nil h2) h1) (by decide) (by decide) h1 hpl, fun γ P P' k q => he.se.mono γ _ _ (fun z γ1 ⟨m, L, a, C, d, b, e1, e2, e3, e4, e5, q⟩ => ⟨m, L, a, C, d, b, e1, e2, e3, e4, e5, k _ _ q⟩) q, fun B S H σ γ Q R q => ?_⟩
  refine he.se.run B S H σ γ _ R (he.se.mono γ _ _ (fun z γ1 ⟨m, L, a, C, d, b, e1, e2, e3, e4, e5, q⟩ v S1 H1 R1 k1 d1 => ?_) q)
  subst e1
  cases d1
  obtain ⟨x1, x2⟩ := R1.excAt e2 e3
  exact ⟨a, C, d, T, b, rfl, hT, x1, x2, e4, e5, q (.bl b) S1 H1 R1 k1 (.bl b)⟩
/-- x.f, x an exception in a box -/
def dXv (K : PySem.W.Frag) (h : Nat) (f : Str) (we : WE) : WE := fun γ Q => we γ fun z γ1 => ∃ m L a C dd fs d, z = .ref a ∧ γ1[h]? = some (.hp m L) ∧ L a = some (.exc a C (some dd)) ∧ L dd = some (.xd dd fs) ∧ (XfC K C ∧ PySem.W.findIn K (.ref C) f = some none) ∧ fs.lookup f = some d ∧ Q d γ1
theorem de_xv (K' : PySem.W.Frag) (h : Nat) {n : Str} (he : DE X e te we) (hb : attributeBase e n X.env (eval e X.env) = eval e X.env := by rfl) (hK : X.K = K' := by rfl) : DE X (.Attribute e n pos) (tXv K' n te) (dXv K' h n we) := by
  subst hK
  refine ⟨pe_xv he.pe hb, fun γ P P' k q => he.se.mono γ _ _ (fun z γ1 ⟨m, L, a, C, dd, fs, d, e1, e2, e3, e4, e5, e6, q⟩ => ⟨m, L, a, C, dd, fs, d, e1, e2, e3, e4, e5, e6, k _ _ q⟩) q, fun B S H σ γ Q R q => ?_⟩
  refine he.se.run B S H σ γ _ R (he.se.mono γ _ _ (fun z γ1 ⟨m, L, a, C, dd, fs, d, e1, e2, e3, e4, e5, e6, q⟩ v S1 H1 R1 k1 d1 => ?_) q)
  subst e1
  cases d1
  obtain ⟨x1, _⟩ := R1.excAt e2 ⟨e3, .inr ⟨dd, fs, rfl, e4⟩⟩
  obtain ⟨_, hb2⟩ := R1.boxAt e2 e4
  cases eh : H1 dd with
  | none => rw [eh] at hb2; exact hb2.elim
  | some o =>
    rw [eh] at hb2
    obtain ⟨vs, rfl, df⟩ := hb2
    obtain ⟨v, l, dn⟩ := df.look e6
    exact ⟨a, C, dd, vs, v, rfl, x1, eh, e5.1, e5.2, l, q v S1 H1 R1 k1 dn⟩
end
section
variable {K : PySem.W.Frag} {γ : List Sl} {h : Nat} {C : Addr} {f g : Str} {we : WE} {wa : WA} {T : V} {Q : D → List Sl → Prop}
instance : Go (dNewX0 h C γ Q) (∃ m L, γ[h]? = some (.hp m L) ∧ ∀ p, L p = none → Q (.ref p) (γ.set h (.hp m (updB L p (.exc p C none))))) := ⟨fun z => z⟩
instance : Go (dNewX1 h C f we γ Q) (we γ fun d γ1 => ∃ m L, γ1[h]? = some (.hp m L) ∧ ∀ p dd, L p = none → L dd = none → p ≠ dd → Q (.ref p) (γ1.set h (.hp m (updB (updB L dd (.xd dd [(f, d)])) p (.exc p C (some dd)))))) := ⟨fun z => z⟩
instance : Go (dNewX2 h C f g wa γ Q) (wa γ fun ds γ1 => ∃ d1 d2, ds = [d1, d2] ∧ ∃ m L, γ1[h]? = some (.hp m L) ∧ ∀ p dd, L p = none → L dd = none → p ≠ dd → Q (.ref p) (γ1.set h (.hp m (updB (updB L dd (.xd dd [(g, d2), (f, d1)])) p (.exc p C (some dd)))))) := ⟨fun z => z⟩
instance : Go (dIsE K h T we γ Q) (we γ fun z γ1 => ∃ m L a C d b, z = .ref a ∧ γ1[h]? = some (.hp m L) ∧ excAt L a C d ∧ XisC K C ∧ PySem.W.kitOne K (.ref C) (tyW T) = some b ∧ Q (.bl b) γ1) := ⟨fun z => z⟩
instance : Go (dXv K h f we γ Q) (we γ fun z γ1 => ∃ m L a C dd fs d, z = .ref a ∧ γ1[h]? = some (.hp m L) ∧ L a = some (.exc a C (some dd)) ∧ L dd = some (.xd dd fs) ∧ (XfC K C ∧ PySem.W.findIn K (.ref C) f = some none) ∧ fs.lookup f = some d ∧ Q d γ1) := ⟨fun z => z⟩
end
end DL
set_option Elab.async false
set_option linter.all false
set_option autoImplicit false
set_option maxRecDepth 100000
set_option maxHeartbeats 4000000
/-! DL78: many exception classes; try: ..; except B as n: y = n.f. -/
namespace DL
open PySem PySem.Spec PyProof.Rows L2 He
/-- classes at these places, the last of which is the base of all -/
structure Kinds (K : PySem.W.Frag) (Cs : List Addr) (ts : List (String × Bool)) : Prop where
  own : ∀ i j, i < Cs.length → j < Cs.length → PySem.W.kitOne K (.ref (Cs.getD i 0)) (.ref (Cs.getD j 0)) = some (decide (i = j) || decide (j + 1 = Cs.length))
  typ : ∀ i, i < Cs.length → ∀ t ∈ ts, PySem.W.kitOne K (.ref (Cs.getD i 0)) (.type t.1) = some t.2
  xis : ∀ i, i < Cs.length → XisC K (Cs.getD i 0)
theorem getD_map_ga {K : PySem.W.Frag} {xs : List Str} {i : Nat} (h : i < xs.length) : (xs.map (ga K)).getD i 0 = ga K (xs.getD i "") := by
  rw [List.getD_eq_getElem?_getD, List.getD_eq_getElem?_getD, List.getElem?_map, List.getElem?_eq_getElem h]
  rfl
theorem kinds_ok {K : PySem.W.Frag} {xs : List Str} {ts : List (String × Bool)} (c : kindsB xs ts K = true) : Kinds K (xs.map (ga K)) ts := by
  unfold kindsB at c
  rw [List.all_eq_true] at c
  have c1 : ∀ i, i < xs.length → _ := fun i hi => c i (List.mem_range.mpr hi)
  refine ⟨fun i j hi hj => ?_, fun i hi t ht => ?_, fun i hi => ?_⟩
  · rw [List.length_map] at hi hj ⊢
    have := c1 i hi
    rw [Bool.and_eq_true, Bool.and_eq_true, List.all_eq_true] at this
    rw [getD_map_ga hi, getD_map_ga hj]
    exact of_decide_eq_true (this.2.1 j (List.mem_range.mpr hj))
  · rw [List.length_map] at hi
    have := c1 i hi
    rw [Bool.and_eq_true, Bool.and_eq_true, List.all_eq_true, List.all_eq_true] at this
    rw [getD_map_ga hi]
    exact of_decide_eq_true (this.2.2 t ht)
  · rw [List.length_map] at hi
    have := c1 i hi
    rw [Bool.and_eq_true] at this
    rw [getD_map_ga hi]
    exact xis_ok this.1
end DL
set_option Elab.async false
set_option linter.all false
set_option autoImplicit false
set_option maxRecDepth 100000
set_option maxHeartbeats 4000000
/-! DL79: a law with a try in it; try: ..; except B as n: y = n.f, f of any kind. -/
namespace DL
open PySem PySem.Spec PyProof.Rows L2 He
section
variable {P : Program} {w : World} {K : PySem.W.Frag} {mg : Str → Option Value} {base : Heap} {x qual : Str} {st : Stmt} {f : Addr} {fd : FuncData} {N ps : List Str} {k : Nat}
theorem fn_okS0 {s : SpecS} (F : Fun K x qual st f fd) (Sc : FnScope N ps (defScope st)) (len : ps.length = 1)
    (hbody : ∀ (cdv : Value) (A : Around) (outer : List Env) (s0 : Shared) (H : Hp) (E : XK), Room k (A.deeper (envOfC qual (defScope st) s0.heap.objs.size f cdv)) →
      ∃ t w', DSs0 (Xb.of (cxOf CX0 P w K mg base N qual (defScope st) f cdv A outer s0 H E).nox) (defBody st) t w' ∧ ∀ ns Q, s.S ns Q → w' { nx := fun _ => Q (.d .non), rt := fun r _ => Q r } (gamS N ns)) : FnOk P w K mg base CX0 (k + 1) f fd ps (spS K s) := by
  refine F.ok Sc (fun vs H Q E h => ?_) (fun cdv A outer s0 H vs Q E hr h => ?_)
  · obtain ⟨S, a, ns, rfl, _⟩ := h
    exact len.symm
  · obtain ⟨S, a, ns, rfl, e, hS, q⟩ := h
    obtain ⟨t, w', h1, h2⟩ := hbody cdv A outer s0 H E hr
    refine ⟨t, h1.ps, ?_⟩
    have R0 : Rel0 K ⟨H, S, [], [], emptyH⟩ S H (L2.start N [.ref a]) (gamS N ns) := by
      refine ⟨fun _ => emptyH, e, fun a o h _ => h, fun a ha => (by cases ha), Same.refl S, fun a o h => .inl h, rfl.trans (by simp [gamS, L2.start]), fun i s h => ?_, fun i a o e => (by cases e), fun i a o e => (by cases e), fun i j a o u _ e => (by cases e), fun i a o e => (by cases e), fun p o hp => (by cases hp), List.nodup_nil, fun a o e => (by cases e)⟩
      unfold gamS at h
      cases i with
      | zero => cases h; exact ⟨a, rfl, hS⟩
      | succ i =>
        rw [List.getElem?_cons_succ, List.getElem?_replicate] at h
        split at h
        · cases h; trivial
        · cases h
    exact h1.ss.run ⟨H, S, [], [], emptyH⟩ S S H _ (gamS N ns) { nx := fun _ => _, rt := fun r _ => _ } _ rfl (Rel0.of R0) (Same.refl S) ⟨fun S' H' σ' γ' _ R q => q _ _ _ R.nil Den.non, fun S' H' σ' γ' v r _ R rv q => q v _ _ R.nil rv, fun S' H' σ' γ' _ R q => q.elim, fun S' H' σ' γ' _ R q => q.elim⟩ (h2 ns _ q)
end
section
variable {X : Xb} {body : List Stmt} {pos posB posE p1 p2 py np : Pos} {tb : WX → TS} {wb : (Addr → List (Str × D) → List Sl → Prop) → WS} {x n y f : Str} {i j : Nat} {C CR : Addr}
def dTryOne (K : PySem.W.Frag) (CR C : Addr) (i j : Nat) (f : Str) (wb : (Addr → List (Str × D) → List Sl → Prop) → WS) (dX : Addr → List (Str × D) → List Sl → Prop) : WS := fun Dd γ =>
  wb (fun C' fs γ1 => (C' = CR ∧ ∃ z1, fs.lookup f = some z1 ∧ ∀ a, (γ1.set i (.val (.ref a)))[i]? = some (.val (.ref a)) ∧ Dd.nx (((γ1.set i (.val (.ref a))).set j (.val z1)).set i .any)) ∨ (PySem.W.exmOne K (.ref C') (.ref C) = some false ∧ dX C' fs γ1)) Dd γ
theorem ds_tryOne (T2 : XfC X.K CR) (hnf : PySem.W.findIn X.K (.ref CR) f = some none) (hex : PySem.W.exmOne X.K (.ref CR) (.ref C) = some true) (tk : L2.Takes X.c X.W) (hg : X.mg x = some (.ref C))
    (hb : ∀ (W : WX) (dX' : Addr → List (Str × D) → List Sl → Prop) (pn : List (Addr × Obj)) (xe : Value → Shared → Prop), L2.Takes (X.c.tr pn xe) W → DSs ⟨X.c.tr pn xe, W, dX'⟩ body (tb W) (wb dX'))
    (hN : X.N.Nodup) (hi : X.N[i]? = some n := by rfl) (hj : X.N[j]? = some y := by rfl) (hln : X.env.kindOf n = some .local := by rfl) (hy : Loc X.env.scope y := by first | exact Or.inl rfl | exact Or.inr rfl) (hs : X.stack = X.env :: X.outer := by rfl) (hf : X.env.frame = some X.env.locals := by rfl)
    (hv : Vis X.env.scope n := by first | exact Or.inl rfl | exact Or.inr (Or.inl rfl) | exact Or.inr (Or.inr rfl)) (hd : (n == ("__debug__" : Str)) = false := by decide) (hcd : (n == ("__classdict__" : Str)) = false := by decide)
    (hab : attributeBase (.Name n p1) f X.env (eval (.Name n p1) X.env) = eval (.Name n p1) X.env := by rfl)
    (hsw : swapsWith (.Attribute (.Name n p1) f p2) (some (.Name y py)) posE.line X.env = pure false := by rfl) (hfl : X.fn y = true ∨ X.env.scope.names.lookup y = some .local := by first | exact .inl rfl | exact .inr rfl | assumption)
    (hgl : Gl X x := by rfl) (hdb : (x == ("__debug__" : Str)) = false := by decide) :
    DS0 X (.Try body [.ExceptHandler (some (.Name x np)) (some n) [.Assign [.Name y py] (.Attribute (.Name n p1) f p2) posE] posB] [] [] pos)
      (fun D σ H => tb (wAs X.K (.ref C) i (fun a cls d => tAsg (tXf a cls d CR f (tVar i)) (gName j)) X.W D) D σ H) (dTryOne X.K CR C i j f wb X.dX) := by
  have suB : ∀ (a : Addr) (oe : Obj) (cls : Value) (d : Option Addr) (pn : List (Addr × Obj)), Zc cls d oe → (∃ vs, oe.data = .fields vs) → PSs (X.c.suite a ((a, oe) :: pn)) [.Assign [.Name y py] (.Attribute (.Name n p1) f p2) posE] (tAsg (tXf a cls d CR f (tVar i)) (gName j)) := fun a oe cls d pn hz hdt =>
    pss_one (ps_set hN hj hy (pe_xf T2 hnf hz hdt (pe_var (X := X.c.suite a ((a, oe) :: pn)) hi hv hd hcd) hab) hsw hfl)
  refine ⟨ps_try_as hs hf hN hi hln ⟨hgl, hdb, .inl hg⟩ tk (fun W pn xe t1 _ => (hb W (fun _ _ _ => False) pn xe t1).ps) suB, ⟨fun B S0 S H σ γ Dd D hfr R e L q => ?_⟩⟩
  have hB := (hb (wAs X.K (.ref C) i (fun a cls d => tAsg (tXf a cls d CR f (tVar i)) (gName j)) X.W D) (fun C' fs γ1 => (C' = CR ∧ ∃ z1, fs.lookup f = some z1 ∧ ∀ a, (γ1.set i (.val (.ref a)))[i]? = some (.val (.ref a)) ∧ Dd.nx (((γ1.set i (.val (.ref a))).set j (.val z1)).set i .any)) ∨ (PySem.W.exmOne X.K (.ref C') (.ref C) = some false ∧ X.dX C' fs γ1)) X.c.pn (fun _ _ => True) (fun _ _ _ => trivial)).ss
  have hcore : B.core = B := by
    obtain ⟨H0, S0', mu, fr, SP⟩ := B
    have : fr = [] := hfr
    subst this
    rfl
  refine hB.run B S S H σ γ Dd D ⟨R.r, fun S' H' σ' γ' C' fs d e1 r0 ed q' => ?_⟩ (Same.refl S) ⟨fun S2 H2 σ2 γ2 k R2 q => L.nx S2 H2 σ2 γ2 (e.trans k) ⟨R2.r, R.x.mono k⟩ q, fun S2 H2 σ2 γ2 v r k R2 rv q => L.rt S2 H2 σ2 γ2 v r (e.trans k) ⟨R2.r, R.x.mono k⟩ rv q, fun S2 H2 σ2 γ2 k R2 q => L.bk S2 H2 σ2 γ2 (e.trans k) ⟨R2.r, R.x.mono k⟩ q, fun S2 H2 σ2 γ2 k R2 q => L.ct S2 H2 σ2 γ2 (e.trans k) ⟨R2.r, R.x.mono k⟩ q⟩ q
  have r1 := r0
  rw [hcore] at r1
  rcases q' with ⟨rfl, z1, hz1, q3⟩ | ⟨hne, q3⟩
  · refine ⟨true, hex, fun _ a ha => ?_, fun z => Bool.noConfusion z⟩
    obtain ⟨gi, q4⟩ := q3 a
    rcases ed with ⟨_, ed⟩ | ⟨dd, ws, ed, hs2, hf2⟩
    · rw [ed] at hz1; cases hz1
    obtain ⟨v1, hv1, n1⟩ := hf2 f z1 hz1
    have hH : H' dd = some (.xd ws) := by
      obtain ⟨φ, r2⟩ := r1
      exact r2.same _ _ hs2
    have r3 := r1.set (s := .val (.ref a)) (i := i) (v := .ref a) ⟨_, rfl, .ref a⟩ rfl
    obtain ⟨va, hva, nva⟩ := r3.sl i _ gi
    cases nva
    refine ⟨_, hva, rfl, rfl, dd, ws, v1, ed, hH, hv1, ?_⟩
    have r5 := r3.set (s := .val z1) (i := j) (v := v1) ⟨_, rfl, n1⟩ rfl
    exact L.nx _ _ _ _ (e.trans e1) ⟨r5.forget, R.x.mono e1⟩ q4
  · exact ⟨false, hne, fun z => Bool.noConfusion z, fun _ => R.x S' H' σ' γ' C' fs d e1 r0 ed q3⟩
instance {K : PySem.W.Frag} {γ : List Sl} {Dd : EndsD} {i j : Nat} {f : Str} {wb : (Addr → List (Str × D) → List Sl → Prop) → WS} {dX : Addr → List (Str × D) → List Sl → Prop} {CR C : Addr} : Go (dTryOne K CR C i j f wb dX Dd γ) (wb (fun C' fs γ1 => (C' = CR ∧ ∃ z1, fs.lookup f = some z1 ∧ ∀ a, (γ1.set i (.val (.ref a)))[i]? = some (.val (.ref a)) ∧ Dd.nx (((γ1.set i (.val (.ref a))).set j (.val z1)).set i .any)) ∨ (PySem.W.exmOne K (.ref C') (.ref C) = some false ∧ dX C' fs γ1)) Dd γ) := ⟨fun z => z⟩
end
section
variable {c : Cx} {W : WX} {dX : Addr → List (Str × D) → List Sl → Prop} {x : Str} {p p2 pos : Pos} {ta : TA} {wa : WA} {e e2 : Expr}
/-- raise C(e, e2) inside a try -/
theorem ds_raise2T {P : Program} {w : World} {K : PySem.W.Frag} {mg : Str → Option Value} {base : Heap} {f g : Str} (T : Xc2 P w K mg base x f g) (hfg : (f == g) = false) (tk : L2.Takes c W) (hr : Room 2 c.A) (ha : DA ⟨c, W, dX⟩ [e, e2] ta wa) (hc : c.calm = true := by rfl) (hg : Gl c x := by rfl) (hdb : (x == ("__debug__" : Str)) = false := by decide)
    (hst : starEach [e, e2] c.env = (false, eval e c.env) :: starEach [e2] c.env := by rfl) (hpl : (backTo p2 (starEach [e2] c.env)).any (·.1) = false := by rfl)
    (k1 : c.prog = P := by rfl) (k2 : c.w = w := by rfl) (k3 : c.K = K := by rfl) (k4 : c.mg = mg := by rfl) (k5 : c.base = base := by rfl) :
    DS ⟨c, W, dX⟩ (.Raise (some (.Call (.Name x p) [e, e2] [] p2)) none pos) (fun _ σ H => tMkO T.C (spInit2 T.C f g) [] ta σ H fun cls d H' => W cls d σ H') (dRaise2 T.C f g wa dX) := by
  subst k1 k2 k3 k4 k5
  exact ds_raise2 (X := ⟨c, W, dX⟩) T hfg tk hr ha hc hg hdb hst hpl
end
end DL
set_option Elab.async false
set_option linter.all false
set_option autoImplicit false
set_option maxRecDepth 100000
set_option maxHeartbeats 4000000
namespace Kx
open PySem PySem.Spec PyProof.Rows L2 DL
structure Blt (mg : Str → Option Value) : Prop where
  range : mg "range" = none
  enumerate : mg "enumerate" = none
  zip : mg "zip" = none
  sum : mg "sum" = none
  len : mg "len" = none
  int : mg "int" = none
  list : mg "list" = none
  isinstance : mg "isinstance" = none
  bool : mg "bool" = none
  str : mg "str" = none
  tuple : mg "tuple" = none
  abs : mg "abs" = none
  all : mg "all" = none
  any : mg "any" = none
  sorted : mg "sorted" = none
  reversed : mg "reversed" = none
  min : mg "min" = none
  max : mg "max" = none
  ValueError : mg "ValueError" = none
  KeyError : mg "KeyError" = none
  IndexError : mg "IndexError" = none
  TypeError : mg "TypeError" = none
  ZeroDivisionError : mg "ZeroDivisionError" = none
  AttributeError : mg "AttributeError" = none
/-! ### books, as plain data -/
namespace Mx
end Mx
namespace Lin
end Lin
namespace Bk
/-- a statement, as plain data -/
inductive Sm where
  | set (c : Nat) (row : List Int)
  | carry (row : List Int)
  | end_ (b : Nat)
  | keep (cs : List Int) (b : List Sm)
  | again (b : List Sm)
  | either (a b : List Sm)
  | call (p : Nat) (row : List Int) (a b : List Sm)
def il (ns : List Int) : List D := ns.map D.int
mutual
def stD : Sm → D
  | .set c r => .tup [.str "set", .int (c : Nat), .lst (il r)]
  | .carry r => .tup [.str "carry", .lst (il r)]
  | .end_ b => .tup [.str "end", .int (b : Nat)]
  | .keep cs b => .tup [.str "keep", .lst (il cs), .lst (blD b)]
  | .again b => .tup [.str "again", .lst (blD b)]
  | .either a b => .tup [.str "either", .lst (blD a), .lst (blD b)]
  | .call p r a b => .tup [.str "call", .int (p : Nat), .lst (il r), .lst [.lst (blD a), .lst (blD b)]]
def blD : List Sm → List D
  | [] => []
  | s :: b => stD s :: blD b
end
mutual
/-- levels of blocks within -/
def dep : Sm → Nat
  | .keep _ b => depB b + 1
  | .again b => depB b + 1
  | .either a b => max (depB a) (depB b) + 1
  | .call _ _ a b => max (depB a) (depB b) + 1
  | _ => 0
def depB : List Sm → Nat
  | [] => 0
  | s :: b => max (dep s) (depB b)
end
mutual
/-- the number of statements -/
def cnt : Sm → Nat
  | .keep _ b => cntB b + 1
  | .again b => cntB b + 1
  | .either a b => cntB a + cntB b + 1
  | .call _ _ a b => cntB a + cntB b + 1
  | _ => 1
def cntB : List Sm → Nat
  | [] => 0
  | s :: b => cnt s + cntB b
end
def blocks : Sm → List (List Sm)
  | .keep _ b => [b]
  | .again b => [b]
  | .either a b => [a, b]
  | .call _ _ a b => [a, b]
  | _ => []
/-- a row, a list of cells -/
def Row (c : Nat) (r : List Int) : Prop := r.length = c + 2 ∧ ∀ x ∈ r, -9 ≤ x ∧ x ≤ 9
def Cells (c : Nat) (cs : List Int) : Prop := (∀ x ∈ cs, 0 ≤ x ∧ x < (c : Int)) ∧ cs.Pairwise (· < ·)
mutual
/-- a statement of a book of c cells and m procedures, with at most k levels within -/
def wf (c m : Nat) : Nat → Sm → Prop
  | _, .set i r => i < c ∧ Row c r
  | _, .carry r => Row c r
  | _, .end_ b => b < 2
  | k, .keep cs b => 0 < k ∧ Cells c cs ∧ b.length ≤ 8 ∧ wfL c m (k - 1) b
  | k, .again b => 0 < k ∧ b.length ≤ 8 ∧ wfL c m (k - 1) b
  | k, .either a b => 0 < k ∧ (a.length ≤ 8 ∧ wfL c m (k - 1) a) ∧ b.length ≤ 8 ∧ wfL c m (k - 1) b
  | k, .call p r a b => 0 < k ∧ (p < m ∧ Row c r) ∧ (a.length ≤ 8 ∧ wfL c m (k - 1) a) ∧ b.length ≤ 8 ∧ wfL c m (k - 1) b
def wfL (c m : Nat) : Nat → List Sm → Prop
  | _, [] => True
  | k, s :: b => wf c m k s ∧ wfL c m k b
end
abbrev blsD (bs : List (List Sm)) : List D := bs.map fun b => .lst (blD b)
/-- the bodies of a book -/
structure Bodies (c m : Nat) (bs : List (List Sm)) : Prop where
  len : bs.length = m
  body : ∀ b ∈ bs, b.length ≤ 8 ∧ wfL c m 3 b ∧ cntB b ≤ 12
end Bk

def topS (i : Nat) : Stmt := PySem.Challenge.pw_sharedboard_k00_errors.main.body.getD i (.Pass ⟨0, 0, 0, 0⟩)
def methS (i j : Nat) : Stmt := match topS i with
  | .ClassDef (body := b) .. => b.getD j (.Pass ⟨0, 0, 0, 0⟩)
  | s => s
local macro_rules | `(tactic| walk_at "strside") => `(tactic| first | assumption | ((try simp only [str_len_append, len_lit, len_empty, String.reduceToList, List.length_cons, List.length_nil, Nat.zero_add, Nat.reduceAdd]); omega))
local macro_rules | `(tactic| walk_at "flats") => `(tactic| (repeat (first | exact flats_nil | refine flats_cons trivial ?_)))
local macro_rules | `(tactic| walk_at "mulside") => `(tactic| first | assumption | exact mulL (by omega) | exact mulR (by omega))
local macro_rules | `(tactic| walk_at "divside") => `(tactic| first | assumption | exact divS (by omega))
local macro_rules | `(tactic| walk_at "wp1") => `(tactic| first
  | with_reducible refine Go.go ?_
  | refine GoH1.go ⟨_, rfl, ?_⟩
  | refine GoH2.go ⟨_, _, rfl, ?_⟩
  | ((with_reducible refine ex_id ?_); first | ((with_reducible refine' i_inKd2 (b := true) ?hh ?_); (case hh => decide +kernel)) | ((with_reducible refine' i_inKd2 (b := false) ?hh ?_); (case hh => decide +kernel)) | ((with_reducible refine' i_atKd2 ?hh ?_); (case hh => first | exact kdAt_set | exact kdAt_carry | exact kdAt_keep | exact kdAt_either | exact kdAt_again | exact kdAt_call | exact kdAt_end)) | ((with_reducible refine' i_jstr ?hh ?_); (case hh => walk_at "strside")) | ((with_reducible refine' i_callPP2 ?hh ?hk ?hf ?_); (case hh => exact rfl); (case hk => exact rfl); (case hf => walk_at "flats")) | ((with_reducible refine' i_catT2 ?hh ?_); (case hh => ((try simp only [List.length_cons, List.length_nil, List.length_append, List.length_map, List.length_range]); omega))) | ((with_reducible refine' i_fld2 ?hc ?hl ?_); (case hc => assumption); (case hl => exact rfl)) | ((with_reducible refine' i_putI2 ?hh ?hc ?hl ?_); (case hh => exact rfl); (case hc => assumption); (case hl => exact Nat.le_of_ble_eq_true rfl)) | ((with_reducible refine' i_meth2 ?hl ?_); (case hl => exact rfl)) | ((with_reducible refine' i_scr2 ?hh ?_); (case hh => exact rfl)) | ((with_reducible refine' i_ir1' ?hh ?_); (case hh => ((try simp only [List.length_cons, List.length_nil, List.length_append, List.length_map, List.length_range]); omega))) | ((with_reducible refine' i_ir2' ?hh ?_); (case hh => ((try simp only [List.length_cons, List.length_nil, List.length_append, List.length_map, List.length_range]); omega))) | ((with_reducible refine' i_ixO2 ?hh ?hk ?_); (case hh => exact rfl); (case hk => exact rfl)) | ((with_reducible refine' i_sti2 ?hh ?hk ?_); (case hh => exact rfl); (case hk => exact rfl)) | ((with_reducible refine' i_cat2 ?hh ?_); (case hh => ((try simp only [List.length_cons, List.length_nil, List.length_append, List.length_map, List.length_range]); omega))) | ((with_reducible refine' i_app2 ?hh ?hk ?_); (case hh => exact rfl); (case hk => ((try simp only [List.length_cons, List.length_nil, List.length_append, List.length_map, List.length_range]); omega))) | ((with_reducible refine' i_ext2 ?hh ?hk ?_); (case hh => exact rfl); (case hk => ((try simp only [List.length_cons, List.length_nil, List.length_append, List.length_map, List.length_range]); omega))))
  | ((with_reducible refine and_id ?_); first | ((with_reducible refine' i_own ?hh ?_); (case hh => exact rfl)) | ((with_reducible refine' i_sz ?hh ?_); (case hh => ((try simp only [List.length_cons, List.length_nil, List.length_append, List.length_map, List.length_range]); omega))) | ((with_reducible refine' i_szL ?hh ?_); (case hh => ((try simp only [List.length_cons, List.length_nil, List.length_append, List.length_map, List.length_range]); omega))) | ((with_reducible refine' i_szE ?hh ?_); (case hh => ((try simp only [List.length_cons, List.length_nil, List.length_append, List.length_map, List.length_range]); omega))))
  | ((with_reducible refine or_id ?_); first | ((with_reducible refine' i_fmtI ?hh ?_); (case hh => omega)) | ((with_reducible refine' i_fmtS ?hh ?_); (case hh => walk_at "strside")))
  | ((with_reducible refine' i_mYes ?hh ?_); (case hh => decide +kernel))
  | ((with_reducible refine' i_mNo ?hh ?_); (case hh => decide +kernel))
  | ((with_reducible refine' i_strI ?hh ?_); (case hh => omega))
  | ((with_reducible refine' i_addS ?hh ?_); (case hh => walk_at "strside"))
  | ((with_reducible refine' i_callPP ?hn ?hh ?hk ?_); (case hn => decide); (case hh => exact rfl); (case hk => exact rfl))
  | ((with_reducible refine' i_retI ?hh ?_); (case hh => exact rfl))
  | ((with_reducible refine' i_varI ?hh ?_); (case hh => exact rfl))
  | ((with_reducible refine' i_fldI ?hh ?hc ?hl ?_); (case hh => exact rfl); (case hc => assumption); (case hl => exact rfl))
  | ((with_reducible refine' i_modN ?hh ?_); (case hh => first | assumption | omega))
  | ((with_reducible refine' i_fdvA ?hh ?_); (case hh => first | assumption | omega))
  | ((with_reducible refine' i_varO ?hh ?_); (case hh => exact rfl))
  | ((with_reducible refine' i_gtup ?hh ?_); (case hh => exact rfl))
  | ((with_reducible refine' i_callPL ?hn ?hh ?hk ?_); (case hn => decide); (case hh => exact rfl); (case hk => exact rfl))
  | ((with_reducible refine' i_slS ?hh ?_); (case hh => exact rfl))
  | ((with_reducible refine' i_mul ?hh ?_); (case hh => walk_at "mulside"))
  | ((with_reducible refine' i_mod ?hh ?_); (case hh => omega))
  | ((with_reducible refine' i_fdv ?hh ?_); (case hh => walk_at "divside"))
  | ((with_reducible refine' i_pow ?hh ?_); (case hh => exact ⟨by decide, by decide, by decide⟩))
  | dsimp +instances only [truD_n, truD_b, truD_i, truD_s, truD_l, truD_t, isB_o, isB_e, isI_o, isI_e, isS_o, isS_e, isL_o, isL_e, isU_o, isU_e, isB_n, isB_b, isB_i, isB_s, isB_l, isB_t, isI_n, isI_b, isI_i, isI_s, isI_l, isI_t, isS_n, isS_b, isS_i, isS_s, isS_l, isS_t, isL_n, isL_b, isL_i, isL_s, isL_l, isL_t, isU_n, isU_b, isU_i, isU_s, isU_l, isU_t, beqB_t, beqB_f, val_d, val_f, nite_f, nite_t, not_t, not_f, or_t, or_f])
local macro_rules | `(tactic| walk_at "wp") => `(tactic| repeat walk_at "wp1")

local macro_rules | `(tactic| walk_at "side") => `(tactic| first | assumption | omega | with_reducible rfl | decide +kernel | ((try simp only [str_len_append, List.length_cons, List.length_nil, List.length_append, List.length_map, List.length_range]); omega))
local macro_rules | `(tactic| walk_at "ifs") => `(tactic| first | ((with_reducible refine' i_iteDF ?hh ?_); (case hh => walk_at "side")) | ((with_reducible refine' i_iteDT ?hh ?_); (case hh => walk_at "side")) | ((with_reducible refine' i_iteND ?hh ?_); (case hh => walk_at "side")) | ((with_reducible refine' i_iteNT ?hh ?_); (case hh => walk_at "side")))
local macro_rules | `(tactic| walk_at "wr1") => `(tactic| first
  | walk_at "wp1"
  | with_reducible assumption
  | ((with_reducible refine if_id ?_); walk_at "ifs")
  | dsimp +instances only [isZ_i, isZ_b, isZ_n, isZ_s, isZ_l, isZ_t, isZ_o, isZ_e])
local macro_rules | `(tactic| walk_at "wr") => `(tactic| repeat walk_at "wr1")


/-! ### the pool of the law -/
abbrev s_L_pool : Stmt := topS 33
theorem sc_L_pool : FnScope ["_law_script", "_law_seed", "_law_cell"] ["_law_script"] (defScope s_L_pool) := ⟨rfl, rfl, rfl, by decide +kernel, rfl, by decide +kernel, by decide +kernel⟩

abbrev s_L_draw : Stmt := topS 34
theorem sc_L_draw : FnScope ["_law_pool_here", "_law_many", "_law_cell", "_law_digit", "_law_number_here"] ["_law_pool_here", "_law_many"] (defScope s_L_draw) := ⟨rfl, rfl, rfl, by decide +kernel, rfl, by decide +kernel, by decide +kernel⟩

abbrev s_L_number : Stmt := topS 35
theorem sc_L_number : FnScope ["_law_pool_here"] ["_law_pool_here"] (defScope s_L_number) := ⟨rfl, rfl, rfl, by decide +kernel, rfl, by decide +kernel, by decide +kernel⟩

section
variable {P : Program} {w : World} {K : PySem.W.Frag} {mg : Str → Option Value} {base : Heap}
theorem ok_L_pool (M : Blt mg) (G_L_pool : Gf K mg "_law_pool" s_L_pool ["_law_script"]) : FnOk P w K mg base CX0 1 G_L_pool.f G_L_pool.fd ["_law_script"] (spS K spec_L_pool) := by
  refine fn_okS G_L_pool.F sc_L_pool rfl fun cdv A outer s0 H E hr => ⟨_, _, (dss_cons (ds_set (i := 1) sc_L_pool.nd de_int)
      (dss_cons (ds_for PassesOwn.never rfl (di_list K (DF.v (df_slS K 0 do_none (do_some de_int)))) (dg_name (i := 2) sc_L_pool.nd) (dss_one (ds_set (i := 1) sc_L_pool.nd (de_mod (de_callTy cs_int call_int1 M.int (by decide +kernel) (da_cons (de_add (de_add (de_mulK (de_var 1) de_int) (de_var 2)) de_int) da_nil)) de_int))))
      (dss_one (ds_retF (df_lst (da_cons (DF.v (df_list K M.list (DF.v (df_slS K 0 do_none (do_some de_int))))) (da_cons de_int (da_cons de_int (da_cons de_int (da_cons (de_var 1) da_nil)))))))))), ?_⟩
  rintro ns Q ⟨h63, q⟩
  walk_at "wp"
  refine ⟨fun i γ => ∃ (z : Int) (s2 : Sl), γ = [.scr ns, .val (.int z), s2] ∧ 0 ≤ z ∧ z < 2147483629, ⟨17, _, rfl, by decide, by decide⟩, ?_, ?_⟩
  · rintro i d γ hd ⟨z, s2, rfl, h0, h1⟩
    obtain ⟨c, rfl⟩ : ∃ c : Int, d = .int c := by
      have : d ∈ cutL (ns.map D.int) none (some 63) := List.mem_of_getElem? hd
      unfold cutL at this
      have := List.mem_of_mem_drop (List.mem_of_mem_take this)
      obtain ⟨c, _, e⟩ := List.mem_map.mp this
      exact ⟨c, e.symm⟩
    walk_at "wp"
    exact ⟨_, _, rfl, Int.emod_nonneg _ (by decide), Int.emod_lt_of_pos _ (by decide)⟩
  · rintro γ ⟨z, s2, rfl, h0, h1⟩
    walk_at "wp"
    refine q _ ⟨ns.take 63, 0, 0, 0, z, ?_, by decide, by decide, h0, h1⟩
    have e : cutL (ns.map D.int) none (some 63) = (ns.take 63).map D.int := by
      unfold cutL
      rw [HT.sIx_none, List.drop_zero, show (some (63 : Int)) = some ((63 : Nat) : Int) from rfl, HT.sIx_nat, List.map_take, Nat.sub_zero, List.length_map]
      rw [List.take_eq_take_iff]
      simp
    rw [e]
theorem ok_L_draw (M : Blt mg) (G_L_draw : Gf K mg "_law_draw" s_L_draw ["_law_pool_here", "_law_many"]) : FnOk P w K mg base CX0 1 G_L_draw.f G_L_draw.fd ["_law_pool_here", "_law_many"] (spP K spec_L_draw) := by
  refine fn_okP G_L_draw.F sc_L_draw (fun pl ds Q ⟨_, a, e, _⟩ => by rw [e]; rfl) fun cdv A outer s0 H E hr => ⟨_, _, (dss_cons (ds_sub 0 (de_add (de_ixO K 0 de_int) de_int) de_int)
      (dss_cut (ds_if (DW.dt (dw_and (dt_eq (de_ixO K 0 de_int) de_int) (dw_and1 (dt_lt (de_ixO K 0 de_int) (de_callB cs_len call_len_seq M.len PySem.boot_len (da_cons (de_ixO K 0 de_int) da_nil)))))) (dss_cons (ds_set (i := 2) sc_L_draw.nd (de_ix K (de_ixO K 0 de_int) (de_ixO K 0 de_int)))
      (dss_cons (ds_sub 0 (de_add (de_ixO K 0 de_int) de_int) de_int)
      (dss_one (ds_if (dt_ge (de_var 2) (de_pow de_int de_int)) (dss_one (ds_sub 0 (de_var 2) de_int)) (dss_one (ds_sub 0 (de_mod (de_callTy cs_int call_int1 M.int (by decide +kernel) (da_cons (de_add (de_add (de_mulK (de_ixO K 0 de_int) de_int) (de_var 2)) de_int) da_nil)) de_int) de_int)))))) dss_nil)
      (dss_cons (ds_if (dt_gt (de_ixO K 0 de_int) de_int) (dss_cons (ds_set (i := 3) sc_L_draw.nd (de_mod (de_callTy cs_int call_int1 M.int (by decide +kernel) (da_cons (de_ixO K 0 de_int) da_nil)) (de_var 1)))
      (dss_cons (ds_sub 0 (de_fdv (de_ixO K 0 de_int) (de_var 1)) de_int)
      (dss_one (ds_ret (de_var 3))))) dss_nil)
      (dss_cons (ds_set (i := 4) sc_L_draw.nd (de_mod (de_callTy cs_int call_int1 M.int (by decide +kernel) (da_cons (de_add (de_add (de_mulK (de_ixO K 0 de_int) de_int) (de_mulK (de_ixO K 0 de_int) de_int)) de_int) da_nil)) de_int))
      (dss_cons (ds_set (i := 4) sc_L_draw.nd (de_mod (de_callTy cs_int call_int1 M.int (by decide +kernel) (da_cons (de_mulK (de_var 4) (de_add (de_fdv (de_var 4) de_int) de_int)) da_nil)) de_int))
      (dss_cons (ds_set (i := 4) sc_L_draw.nd (de_mod (de_callTy cs_int call_int1 M.int (by decide +kernel) (da_cons (de_mulK (de_var 4) (de_add (de_fdv (de_var 4) de_int) de_int)) da_nil)) de_int))
      (dss_one (ds_ret (de_mod (de_callTy cs_int call_int1 M.int (by decide +kernel) (da_cons (de_fdv (de_var 4) de_int) da_nil)) (de_var 1)))))))))), ?_⟩
  rintro pl ds Q ⟨⟨ns, ix, big, cnt, seed, rfl, h0, h1, h2, h3⟩, many, rfl, ⟨hm, hl⟩, q⟩
  walk_at "wp"
  refine ⟨fun γ => ∃ (ix big cnt seed : Int) (s2 : Sl), γ = [.own true [.lst (ns.map D.int), .int ix, .int big, .int cnt, .int seed], .val (.int many), s2, .any, .any] ∧ 0 ≤ ix ∧ 0 ≤ big ∧ 0 ≤ seed ∧ seed < 2147483629, ?_, ?_⟩
  · walk_at "wp"
    refine i_ite (fun hb => ?_) (fun hb => ?_)
    · walk_at "wp"
      refine i_ite (fun hx => ?_) (fun hx => ?_)
      · walk_at "wp"
        rw [List.length_map] at hx
        obtain ⟨c, hc, _⟩ := atI_int h0 hx
        refine i_ixL hc ?_
        walk_at "wp"
        refine i_ite (fun hg => ?_) (fun hg => ?_)
        · walk_at "wp"
          have hz : (0 : Int) ≤ 10 ^ (18 : Int).toNat := by decide
          exact ⟨ix + 1, c, cnt + 1, seed, _, rfl, by omega, by omega, h2, h3⟩
        · walk_at "wp"
          exact ⟨ix + 1, big, cnt + 1, _, _, rfl, by omega, h1, Int.emod_nonneg _ (by decide), Int.emod_lt_of_pos _ (by decide)⟩
      · walk_at "wp"
        exact ⟨ix, big, cnt + 1, seed, _, rfl, h0, h1, h2, h3⟩
    · walk_at "wp"
      exact ⟨ix, big, cnt + 1, seed, _, rfl, h0, h1, h2, h3⟩
  · rintro γ ⟨ix, big, cnt, seed, s2, rfl, h0, h1, h2, h3⟩
    have hd : CDivW big many := ⟨hm, hl⟩
    walk_at "wp"
    refine i_ite (fun hb => ?_) (fun hb => ?_)
    · walk_at "wp"
      exact ⟨_, rfl, q _ _ ⟨_, rfl, Int.emod_nonneg _ (by omega), Int.emod_lt_of_pos _ hm⟩ ⟨ns, ix, _, cnt, seed, rfl, h0, Int.ediv_nonneg h1 (by omega), h2, h3⟩⟩
    · walk_at "wp"
      exact ⟨_, rfl, q _ _ ⟨_, rfl, Int.emod_nonneg _ (by omega), Int.emod_lt_of_pos _ hm⟩ ⟨ns, ix, big, cnt, seed, rfl, h0, h1, h2, h3⟩⟩
theorem ok_L_number (M : Blt mg) (G_L_draw : Gf K mg "_law_draw" s_L_draw ["_law_pool_here", "_law_many"]) (G_L_number : Gf K mg "_law_number" s_L_number ["_law_pool_here"]) : FnOk P w K mg base CX0 2 G_L_number.f G_L_number.fd ["_law_pool_here"] (spP K spec_L_number) := by
  have H_L_draw : FnOk P w K mg base CX0 1 G_L_draw.f G_L_draw.fd ["_law_pool_here", "_law_many"] (spP K spec_L_draw) := ok_L_draw M G_L_draw
  refine fn_okP G_L_number.F sc_L_number (fun pl ds Q ⟨_, a, e, _⟩ => by rw [e]; rfl) fun cdv A outer s0 H E hr => ⟨_, _, (dss_cons (ds_if (dt_eq (de_callP K 0 H_L_draw (hr.mono (by decide)) G_L_draw.g G_L_draw.F.kp G_L_draw.b (da_cons de_int da_nil)) de_int) (dss_one (ds_ret (de_sub (de_callP K 0 H_L_draw (hr.mono (by decide)) G_L_draw.g G_L_draw.F.kp G_L_draw.b (da_cons (de_mulK de_int (de_pow de_int de_int)) da_nil)) (de_pow de_int de_int)))) dss_nil)
      (dss_one (ds_ret (de_sub (de_callP K 0 H_L_draw (hr.mono (by decide)) G_L_draw.g G_L_draw.F.kp G_L_draw.b (da_cons de_int da_nil)) de_int)))), ?_⟩
  rintro pl ds Q ⟨hp, u, rfl, _, q⟩
  walk_at "wp"
  refine draw_i (many := 5) hp (.of (by omega)) fun n pl1 n0 n1 hp1 => ?_
  walk_at "wp"
  refine i_ite (fun hb => ?_) (fun hb => ?_)
  · walk_at "wp"
    refine draw_i hp1 ⟨by decide, by decide⟩ fun n2 pl2 m0 m1 hp2 => ?_
    walk_at "wp"
    refine ⟨pl2, rfl, q _ _ ⟨_, rfl, ?_, ?_⟩ hp2⟩
    · have e : (10 : Int) ^ (49 : Int).toNat = tenE49 := by decide
      rw [e]; omega
    · have e : (10 : Int) ^ (49 : Int).toNat = tenE49 := by decide
      rw [e] at m1 ⊢
      omega
  · walk_at "wp"
    refine draw_i (many := 11) hp1 (.of (by omega)) fun n2 pl2 m0 m1 hp2 => ?_
    walk_at "wp"
    have e : tenE49 = 10000000000000000000000000000000000000000000000000 := rfl
    exact ⟨pl2, rfl, q _ _ ⟨_, rfl, by omega, by omega⟩ hp2⟩
end

/-! ### the law's comparison: each datum is the same as itself -/
abbrev s_L_same : Stmt := topS 36
theorem sc_L_same : FnScope ["_law_actual", "_law_due", "_law_k"] ["_law_actual", "_law_due"] (defScope s_L_same) := ⟨rfl, rfl, rfl, by decide +kernel, rfl, by decide +kernel, by decide +kernel⟩

section
variable {P : Program} {w : World} {K : PySem.W.Frag} {mg : Str → Option Value} {base : Heap}
theorem ok_L_same (M : Blt mg) (G_L_same : Gf K mg "_law_same" s_L_same ["_law_actual", "_law_due"]) : ∀ k, FnOk P w K mg base CX0 k G_L_same.f G_L_same.fd ["_law_actual", "_law_due"] (spV K (spec_L_same k)) := by
  intro k
  induction k with
  | zero => exact fn_none fun ds Q ⟨a, _, h, _⟩ => h
  | succ k IH =>
    refine fn_ok G_L_same.F sc_L_same (fun ds Q ⟨a, e, _⟩ => by rw [e]; rfl) fun cdv A outer s0 H E hr => ⟨_, _, (dss_cons (ds_if (dt_isN (de_var 1)) (dss_one (ds_ret (de_isN (de_var 0)))) dss_nil)
      (dss_cons (ds_if (DW.dt (dw_or (dt_tr K (de_isi K kit_B M.isinstance M.bool (by decide +kernel) (de_var 1))) (dw_or1 (dt_tr K (de_isi K kit_B M.isinstance M.bool (by decide +kernel) (de_var 0)))))) (dss_one (ds_ret (de_and (de_isi K kit_B M.isinstance M.bool (by decide +kernel) (de_var 1)) (de_and (de_isi K kit_B M.isinstance M.bool (by decide +kernel) (de_var 0)) (de_one (de_eq (de_var 0) (de_var 1))))))) dss_nil)
      (dss_cons (ds_if (dt_tr K (de_isi K kit_I M.isinstance M.int (by decide +kernel) (de_var 1))) (dss_one (ds_ret (de_and (de_isi K kit_I M.isinstance M.int (by decide +kernel) (de_var 0)) (de_one (de_eq (de_var 0) (de_var 1)))))) dss_nil)
      (dss_cons (ds_if (dt_tr K (de_isi K kit_S M.isinstance M.str (by decide +kernel) (de_var 1))) (dss_one (ds_ret (de_and (de_isi K kit_S M.isinstance M.str (by decide +kernel) (de_var 0)) (de_one (de_eq (de_var 0) (de_var 1)))))) dss_nil)
      (dss_cons (ds_if (DW.dt (dw_or (dt_ne (de_isi K kit_L M.isinstance M.list (by decide +kernel) (de_var 1)) (de_isi K kit_L M.isinstance M.list (by decide +kernel) (de_var 0))) (dw_or1 (dt_not (dt_tr K (de_isi2 K kit_L kit_U M.isinstance M.list M.tuple (by decide +kernel) (by decide +kernel) (de_var 0))))))) (dss_one (ds_ret de_bl)) dss_nil)
      (dss_cons (ds_if (dt_ne (de_callB cs_len call_len_seq M.len PySem.boot_len (da_cons (de_var 0) da_nil)) (de_callB cs_len call_len_seq M.len PySem.boot_len (da_cons (de_var 1) da_nil))) (dss_one (ds_ret de_bl)) dss_nil)
      (dss_one (ds_ret (de_eq (de_callB cs_len call_len_seq M.len PySem.boot_len (da_cons (DF.v (df_lc (own := [("_law_k", 2)]) rfl sc_L_same.nd (di_range1 M.range (da_cons (de_callB cs_len call_len_seq M.len PySem.boot_len (da_cons (de_var 1) da_nil)) da_nil)) (blkOk_by (by rfl)) (fun _ _ _ _ _ => (dg_name (i := 2) sc_L_same.nd)) (gin_name (by decide)) gmo_name (fun _ _ _ _ _ => (dts_one (dt_not (dt_tr K (de_call K IH hr G_L_same.g G_L_same.F.kp G_L_same.b (da_cons (de_ix K (de_var 0) (de_var 2)) (da_cons (de_ix K (de_var 1) (de_var 2)) da_nil))))))) (fun _ _ _ _ _ => (de_var 2)))) da_nil)) de_int))))))))), ?_⟩
    rintro ds Q ⟨d, rfl, hd, q⟩
    have q1 : Q (.d (.bl true)) := q _ rfl
    clear q
    cases d with
    | non => walk_at "wp"; exact q1
    | bl b => walk_at "wp"; rw [beqB_self]; exact q1
    | int i => walk_at "wp"; rw [decide_eq_true rfl]; exact q1
    | str s => walk_at "wp"; rw [decide_eq_true rfl]; exact q1
    | obj C fs => exact hd.elim
    | emp => exact hd.elim
    | ref p => exact hd.elim
    | lst ds =>
      obtain ⟨hz, hd⟩ := hd
      walk_at "wp"
      refine i_iteN (fun h => absurd rfl h) (fun _ => ?_)
      walk_at "wp"
      refine i_none ?_ ?_ (fun i d hi R hR => ?_) ?_
      · rw [rngD_len]; omega
      · rfl
      · obtain ⟨rfl, hi⟩ := rng0_inv hi
        obtain ⟨x, hx⟩ : ∃ x, ds[i]? = some x := ⟨_, List.getElem?_eq_getElem (by omega)⟩
        walk_at "wp"
        refine i_ixL (atI_of hx) ?_
        walk_at "wp"
        refine i_ixL (atI_of hx) ?_
        walk_at "wp"
        refine ⟨x, rfl, hd x (List.mem_of_getElem? hx), fun r hr => ?_⟩
        subst hr
        walk_at "wp"
        exact hR _ rfl
      · walk_at "wp"
        exact q1
    | tup ds =>
      obtain ⟨hz, hd⟩ := hd
      walk_at "wp"
      refine i_iteN (fun h => absurd rfl h) (fun _ => ?_)
      walk_at "wp"
      refine i_none ?_ ?_ (fun i d hi R hR => ?_) ?_
      · rw [rngD_len]; omega
      · rfl
      · obtain ⟨rfl, hi⟩ := rng0_inv hi
        obtain ⟨x, hx⟩ : ∃ x, ds[i]? = some x := ⟨_, List.getElem?_eq_getElem (by omega)⟩
        walk_at "wp"
        refine i_ixT (atI_of hx) ?_
        walk_at "wp"
        refine i_ixT (atI_of hx) ?_
        walk_at "wp"
        refine ⟨x, rfl, hd x (List.mem_of_getElem? hx), fun r hr => ?_⟩
        subst hr
        walk_at "wp"
        exact hR _ rfl
      · walk_at "wp"
        exact q1
end

/-! ### the kinds of errors -/
local macro_rules | `(tactic| walk_at "bx") => `(tactic| first | with_reducible assumption | exact updB_same | (refine getB_ne ?_ ?_; (first | with_reducible assumption | (refine Ne.symm ?_; with_reducible assumption)); walk_at "bx"))
local macro_rules | `(tactic| walk_at "wb1") => `(tactic| first
  | with_reducible refine Go.go ?_
  | refine GoH1.go ⟨_, rfl, ?_⟩
  | refine GoH2.go ⟨_, _, rfl, ?_⟩
  | ((with_reducible refine ex_id ?_); first | ((with_reducible refine' i_fldB2 ?hg ?hl ?hc ?hf ?_); (case hg => exact rfl); (case hl => walk_at "bx"); (case hc => assumption); (case hf => exact rfl)) | ((with_reducible refine' i_putB2 ?hg ?hl ?hc ?hf ?_); (case hg => exact rfl); (case hl => walk_at "bx"); (case hc => assumption); (case hf => exact Nat.le_of_ble_eq_true rfl)) | ((with_reducible refine' i_augB2 ?hg ?hl ?hc ?hf ?_); (case hg => exact rfl); (case hl => walk_at "bx"); (case hc => assumption); (case hf => exact rfl)) | ((with_reducible refine' i_augB3 ?hg ?hl ?hf ?_); (case hg => exact rfl); (case hl => walk_at "bx"); (case hf => exact Nat.le_of_ble_eq_true rfl)) | ((with_reducible refine' i_appB3 ?hg ?hl ?hz ?_); (case hg => exact rfl); (case hl => walk_at "bx"); (case hz => walk_at "side")) | ((with_reducible refine' i_stB2 ?hg ?hl ?ha ?_); (case hg => exact rfl); (case hl => walk_at "bx"); (case ha => exact rfl)) | ((with_reducible refine' i_ixB2 ?hg ?hl ?ha ?_); (case hg => exact rfl); (case hl => walk_at "bx"); (case ha => exact rfl)) | ((with_reducible refine' i_lenB2 ?hg ?hl ?_); (case hg => exact rfl); (case hl => walk_at "bx")) | ((with_reducible refine' i_frzB2 ?hg ?hl ?_); (case hg => exact rfl); (case hl => walk_at "bx")) | ((with_reducible refine' i_dgB2 ?hg ?hl ?ha ?_); (case hg => exact rfl); (case hl => walk_at "bx"); (case ha => exact rfl)) | ((with_reducible refine' i_dpB2 ?hg ?hl ?ha ?hz ?_); (case hg => exact rfl); (case hl => walk_at "bx"); (case ha => exact rfl); (case hz => exact lt_sz rfl)) | ((with_reducible refine' i_listB2 ?hg ?hl ?_); (case hg => exact rfl); (case hl => walk_at "bx")) | ((with_reducible refine' i_methB2 ?hg ?hl ?hn ?_); (case hg => exact rfl); (case hl => walk_at "bx"); (case hn => exact rfl)))
  | ((with_reducible refine' i_appB2 ?hg ?hl ?_); (case hg => exact rfl); (case hl => walk_at "bx"))
  | walk_at "wr1")
local macro_rules | `(tactic| walk_at "wb") => `(tactic| repeat walk_at "wb1")

abbrev s_L_kinds : Stmt := topS 37
theorem sc_L_kinds : FnScope ["_law_thing_here", "_law_found", "$"] ["_law_thing_here"] (defScope s_L_kinds) := ⟨rfl, rfl, rfl, by decide +kernel, rfl, by decide +kernel, by decide +kernel⟩

abbrev s_L_made : Stmt := topS 38
theorem sc_L_made : FnScope ["_law_first", "_law_second", "_law_plain", "$"] ["_law_first", "_law_second"] (defScope s_L_made) := ⟨rfl, rfl, rfl, by decide +kernel, rfl, by decide +kernel, by decide +kernel⟩

abbrev s_L_foreign : Stmt := topS 40
theorem sc_L_foreign : FnScope ["_law_thing_here", "$"] ["_law_thing_here"] (defScope s_L_foreign) := ⟨rfl, rfl, rfl, by decide +kernel, rfl, by decide +kernel, by decide +kernel⟩

/-- an error of the i-th class of the list at p -/
def ErrAt (Cs : List Addr) (L : Bxs) (p : Addr) (i : Nat) : Prop := i < Cs.length ∧ ∃ d, excAt L p (Cs.getD i 0) d
structure ErrA where
  p : Addr
  i : Nat
def spec_kinds (Cs : List Addr) : SpecB := .fn (fun a : ErrA => [.ref a.p]) (fun a L => Cs.length = 31 ∧ ErrAt Cs L a.p a.i) (fun a v L L' => v = .lst ((List.range 30).map fun j => .bl (decide (a.i = j))) ∧ L' = L)
def spec_foreign (Cs : List Addr) : SpecB := .fn (fun a : ErrA => [.ref a.p]) (fun a L => Cs.length = 31 ∧ ErrAt Cs L a.p a.i) (fun a v L L' => v = .bl false ∧ L' = L)
/-- errors of the first classes of the list -/
def Made (Cs : List Addr) (L : Bxs) (as : List Addr) : Prop := ∀ i, i < as.length → ∃ d, excAt L (as.getD i 0) (Cs.getD i 0) d
theorem excAt.ext {L L1 : Bxs} {p C : Addr} {d : Option Addr} (h : excAt L p C d) (x : ∀ q b, L q = some b → L1 q = some b) : excAt L1 p C d := ⟨x _ _ h.1, h.2.imp id fun ⟨dd, fs, e, l⟩ => ⟨dd, fs, e, x _ _ l⟩⟩
theorem Made.add {Cs : List Addr} {L L1 : Bxs} {as : List Addr} {p C : Addr} {d : Option Addr} (m : Made Cs L as) (hC : Cs.getD as.length 0 = C) (x : ∀ q b, L q = some b → L1 q = some b) (e : excAt L1 p C d) : Made Cs L1 (as ++ [p]) := by
  intro i hi
  rw [List.length_append, List.length_singleton] at hi
  by_cases h : i < as.length
  · rw [List.getD_eq_getElem?_getD, List.getElem?_append_left h, ← List.getD_eq_getElem?_getD]
    obtain ⟨d, k⟩ := m i h
    exact ⟨d, excAt.ext k x⟩
  · obtain rfl : i = as.length := by omega
    rw [List.getD_eq_getElem?_getD, List.getElem?_concat_length, hC]
    exact ⟨d, e⟩
theorem Made.new0 {Cs : List Addr} {L : Bxs} {as : List Addr} {p C : Addr} (m : Made Cs L as) (h : L p = none) (hC : Cs.getD as.length 0 = C) : ∃ L1, L1 = updB L p (.exc p C none) ∧ Made Cs L1 (as ++ [p]) := by
  refine ⟨_, rfl, m.add (d := none) hC (fun q b e => ?_) ⟨updB_same, .inl rfl⟩⟩
  rw [updB_ne (fun z => by rw [z, h] at e; cases e), e]
theorem Made.new1 {Cs : List Addr} {L : Bxs} {as : List Addr} {p dd C : Addr} {fs : List (Str × D)} (m : Made Cs L as) (h : L p = none) (h2 : L dd = none) (h3 : p ≠ dd) (hC : Cs.getD as.length 0 = C) : ∃ L1, L1 = updB (updB L dd (.xd dd fs)) p (.exc p C (some dd)) ∧ Made Cs L1 (as ++ [p]) := by
  refine ⟨_, rfl, m.add (d := some dd) hC (fun q b e => ?_) ⟨updB_same, .inr ⟨dd, fs, rfl, ?_⟩⟩⟩
  · rw [updB_ne (fun z => by rw [z, h] at e; cases e), updB_ne (fun z => by rw [z, h2] at e; cases e), e]
  · rw [updB_ne h3.symm, updB_same]
def spec_made (Cs : List Addr) : SpecB := .fn (fun a : D × D => [a.1, a.2]) (fun _ _ => True) (fun _ v _ L' => ∃ as : List Addr, as.length = 30 ∧ v = .lst (as.map .ref) ∧ Made Cs L' as)
section
variable {P : Program} {w : World} {K : PySem.W.Frag} {mg : Str → Option Value} {base : Heap}
theorem ok_L_kinds (M : Blt mg) (hSeer : seerB K = true) (hTree : P.given.tree = none) (E_NoCells : Xc0 K mg "NoCells") (E_NoProcedure : Xc0 K mg "NoProcedure") (E_NoPath : Xc0 K mg "NoPath") (E_NoBoard : Xc0 K mg "NoBoard") (E_NoNumber : Xc0 K mg "NoNumber") (E_NoDeed : Xc0 K mg "NoDeed") (E_NoWidth : Xc0 K mg "NoWidth") (E_NoTable : Xc0 K mg "NoTable") (E_NoClass : Xc0 K mg "NoClass") (E_NoState : Xc0 K mg "NoState") (E_NoClasses : Xc0 K mg "NoClasses") (E_NoClaims : Xc0 K mg "NoClaims") (E_NoOrder : Xc0 K mg "NoOrder") (E_NoFault : Xc0 K mg "NoFault") (E_NoMany : Xc0 K mg "NoMany") (E_NoList : Xc0 K mg "NoList") (E_NoIndex : Xc0 K mg "NoIndex") (E_NoDeeds : Xc0 K mg "NoDeeds") (E_NotLet : Xc0 K mg "NotLet") (E_NoReplica : Xc0 K mg "NoReplica") (E_Held : Xc0 K mg "Held") (E_NoBook : Xc2 P w K mg base "NoBook" "procedure" "path") (E_NoRun : Xc1 P w K mg base "NoRun" "index") (E_NoHistory : Xc1 P w K mg base "NoHistory" "index") (E_NoVectors : Xc1 P w K mg base "NoVectors" "index") (E_NoEquations : Xc1 P w K mg base "NoEquations" "index") (E_NoEquation : Xc1 P w K mg base "NoEquation" "place") (E_NoSender : Xc1 P w K mg base "NoSender" "state") (E_TooMany : Xc1 P w K mg base "TooMany" "many") (E_NoText : Xc1 P w K mg base "NoText" "line") (E_BoardError : Xc0 K mg "BoardError") (KX : Kinds K [E_NoCells.C, E_NoProcedure.C, E_NoPath.C, E_NoBoard.C, E_NoNumber.C, E_NoDeed.C, E_NoWidth.C, E_NoTable.C, E_NoClass.C, E_NoState.C, E_NoClasses.C, E_NoClaims.C, E_NoOrder.C, E_NoFault.C, E_NoMany.C, E_NoList.C, E_NoIndex.C, E_NoDeeds.C, E_NotLet.C, E_NoReplica.C, E_Held.C, E_NoBook.C, E_NoRun.C, E_NoHistory.C, E_NoVectors.C, E_NoEquations.C, E_NoEquation.C, E_NoSender.C, E_TooMany.C, E_NoText.C, E_BoardError.C] [("ValueError", true), ("KeyError", false), ("IndexError", false), ("TypeError", false), ("ZeroDivisionError", false), ("AttributeError", false)]) (G_L_kinds : Gf K mg "_law_kinds" s_L_kinds ["_law_thing_here"]) : FnOk P w K mg base CX0 1 G_L_kinds.f G_L_kinds.fd ["_law_thing_here"] (spB K (spec_kinds [E_NoCells.C, E_NoProcedure.C, E_NoPath.C, E_NoBoard.C, E_NoNumber.C, E_NoDeed.C, E_NoWidth.C, E_NoTable.C, E_NoClass.C, E_NoState.C, E_NoClasses.C, E_NoClaims.C, E_NoOrder.C, E_NoFault.C, E_NoMany.C, E_NoList.C, E_NoIndex.C, E_NoDeeds.C, E_NotLet.C, E_NoReplica.C, E_Held.C, E_NoBook.C, E_NoRun.C, E_NoHistory.C, E_NoVectors.C, E_NoEquations.C, E_NoEquation.C, E_NoSender.C, E_TooMany.C, E_NoText.C, E_BoardError.C])) := by
  refine fn_okB G_L_kinds.F sc_L_kinds (by decide) (fun ds L Q ⟨a, e, _⟩ => by rw [e]; rfl) fun cdv A outer s0 H E hr => ⟨_, _, (dss_cons (ds_set (i := 1) sc_L_kinds.nd (DF.v (df_lst (da_cons (de_isE K 2 (de_var 0) (pe_glob (v := .ref E_NoCells.C) rfl E_NoCells.g rfl (by decide)) (.inl ⟨_, rfl⟩) M.isinstance) (da_cons (de_isE K 2 (de_var 0) (pe_glob (v := .ref E_NoProcedure.C) rfl E_NoProcedure.g rfl (by decide)) (.inl ⟨_, rfl⟩) M.isinstance) (da_cons (de_isE K 2 (de_var 0) (pe_glob (v := .ref E_NoPath.C) rfl E_NoPath.g rfl (by decide)) (.inl ⟨_, rfl⟩) M.isinstance) (da_cons (de_isE K 2 (de_var 0) (pe_glob (v := .ref E_NoBoard.C) rfl E_NoBoard.g rfl (by decide)) (.inl ⟨_, rfl⟩) M.isinstance) da_nil)))))))
      (dss_cons (ds_set (i := 1) sc_L_kinds.nd (DF.v (df_cat (de_var 1) (DF.v (df_lst (da_cons (de_isE K 2 (de_var 0) (pe_glob (v := .ref E_NoNumber.C) rfl E_NoNumber.g rfl (by decide)) (.inl ⟨_, rfl⟩) M.isinstance) (da_cons (de_isE K 2 (de_var 0) (pe_glob (v := .ref E_NoDeed.C) rfl E_NoDeed.g rfl (by decide)) (.inl ⟨_, rfl⟩) M.isinstance) (da_cons (de_isE K 2 (de_var 0) (pe_glob (v := .ref E_NoWidth.C) rfl E_NoWidth.g rfl (by decide)) (.inl ⟨_, rfl⟩) M.isinstance) (da_cons (de_isE K 2 (de_var 0) (pe_glob (v := .ref E_NoTable.C) rfl E_NoTable.g rfl (by decide)) (.inl ⟨_, rfl⟩) M.isinstance) da_nil)))))))))
      (dss_cons (ds_set (i := 1) sc_L_kinds.nd (DF.v (df_cat (de_var 1) (DF.v (df_lst (da_cons (de_isE K 2 (de_var 0) (pe_glob (v := .ref E_NoClass.C) rfl E_NoClass.g rfl (by decide)) (.inl ⟨_, rfl⟩) M.isinstance) (da_cons (de_isE K 2 (de_var 0) (pe_glob (v := .ref E_NoState.C) rfl E_NoState.g rfl (by decide)) (.inl ⟨_, rfl⟩) M.isinstance) (da_cons (de_isE K 2 (de_var 0) (pe_glob (v := .ref E_NoClasses.C) rfl E_NoClasses.g rfl (by decide)) (.inl ⟨_, rfl⟩) M.isinstance) (da_cons (de_isE K 2 (de_var 0) (pe_glob (v := .ref E_NoClaims.C) rfl E_NoClaims.g rfl (by decide)) (.inl ⟨_, rfl⟩) M.isinstance) da_nil)))))))))
      (dss_cons (ds_set (i := 1) sc_L_kinds.nd (DF.v (df_cat (de_var 1) (DF.v (df_lst (da_cons (de_isE K 2 (de_var 0) (pe_glob (v := .ref E_NoOrder.C) rfl E_NoOrder.g rfl (by decide)) (.inl ⟨_, rfl⟩) M.isinstance) (da_cons (de_isE K 2 (de_var 0) (pe_glob (v := .ref E_NoFault.C) rfl E_NoFault.g rfl (by decide)) (.inl ⟨_, rfl⟩) M.isinstance) (da_cons (de_isE K 2 (de_var 0) (pe_glob (v := .ref E_NoMany.C) rfl E_NoMany.g rfl (by decide)) (.inl ⟨_, rfl⟩) M.isinstance) (da_cons (de_isE K 2 (de_var 0) (pe_glob (v := .ref E_NoList.C) rfl E_NoList.g rfl (by decide)) (.inl ⟨_, rfl⟩) M.isinstance) da_nil)))))))))
      (dss_cons (ds_set (i := 1) sc_L_kinds.nd (DF.v (df_cat (de_var 1) (DF.v (df_lst (da_cons (de_isE K 2 (de_var 0) (pe_glob (v := .ref E_NoIndex.C) rfl E_NoIndex.g rfl (by decide)) (.inl ⟨_, rfl⟩) M.isinstance) (da_cons (de_isE K 2 (de_var 0) (pe_glob (v := .ref E_NoDeeds.C) rfl E_NoDeeds.g rfl (by decide)) (.inl ⟨_, rfl⟩) M.isinstance) (da_cons (de_isE K 2 (de_var 0) (pe_glob (v := .ref E_NotLet.C) rfl E_NotLet.g rfl (by decide)) (.inl ⟨_, rfl⟩) M.isinstance) (da_cons (de_isE K 2 (de_var 0) (pe_glob (v := .ref E_NoReplica.C) rfl E_NoReplica.g rfl (by decide)) (.inl ⟨_, rfl⟩) M.isinstance) da_nil)))))))))
      (dss_cons (ds_set (i := 1) sc_L_kinds.nd (DF.v (df_cat (de_var 1) (DF.v (df_lst (da_cons (de_isE K 2 (de_var 0) (pe_glob (v := .ref E_Held.C) rfl E_Held.g rfl (by decide)) (.inl ⟨_, rfl⟩) M.isinstance) (da_cons (de_isE K 2 (de_var 0) (pe_glob (v := .ref E_NoBook.C) rfl E_NoBook.g rfl (by decide)) (.inl ⟨_, rfl⟩) M.isinstance) (da_cons (de_isE K 2 (de_var 0) (pe_glob (v := .ref E_NoRun.C) rfl E_NoRun.g rfl (by decide)) (.inl ⟨_, rfl⟩) M.isinstance) (da_cons (de_isE K 2 (de_var 0) (pe_glob (v := .ref E_NoHistory.C) rfl E_NoHistory.g rfl (by decide)) (.inl ⟨_, rfl⟩) M.isinstance) da_nil)))))))))
      (dss_cons (ds_set (i := 1) sc_L_kinds.nd (DF.v (df_cat (de_var 1) (DF.v (df_lst (da_cons (de_isE K 2 (de_var 0) (pe_glob (v := .ref E_NoVectors.C) rfl E_NoVectors.g rfl (by decide)) (.inl ⟨_, rfl⟩) M.isinstance) (da_cons (de_isE K 2 (de_var 0) (pe_glob (v := .ref E_NoEquations.C) rfl E_NoEquations.g rfl (by decide)) (.inl ⟨_, rfl⟩) M.isinstance) (da_cons (de_isE K 2 (de_var 0) (pe_glob (v := .ref E_NoEquation.C) rfl E_NoEquation.g rfl (by decide)) (.inl ⟨_, rfl⟩) M.isinstance) da_nil))))))))
      (dss_one (ds_ret (DF.v (df_cat (de_var 1) (DF.v (df_lst (da_cons (de_isE K 2 (de_var 0) (pe_glob (v := .ref E_NoSender.C) rfl E_NoSender.g rfl (by decide)) (.inl ⟨_, rfl⟩) M.isinstance) (da_cons (de_isE K 2 (de_var 0) (pe_glob (v := .ref E_TooMany.C) rfl E_TooMany.g rfl (by decide)) (.inl ⟨_, rfl⟩) M.isinstance) (da_cons (de_isE K 2 (de_var 0) (pe_glob (v := .ref E_NoText.C) rfl E_NoText.g rfl (by decide)) (.inl ⟨_, rfl⟩) M.isinstance) da_nil)))))))))))))))), ?_⟩
  rintro ds L Q ⟨⟨p, i⟩, rfl, ⟨hl, hi, d, he⟩, q⟩
  have hE : XisC K ([E_NoCells.C, E_NoProcedure.C, E_NoPath.C, E_NoBoard.C, E_NoNumber.C, E_NoDeed.C, E_NoWidth.C, E_NoTable.C, E_NoClass.C, E_NoState.C, E_NoClasses.C, E_NoClaims.C, E_NoOrder.C, E_NoFault.C, E_NoMany.C, E_NoList.C, E_NoIndex.C, E_NoDeeds.C, E_NotLet.C, E_NoReplica.C, E_Held.C, E_NoBook.C, E_NoRun.C, E_NoHistory.C, E_NoVectors.C, E_NoEquations.C, E_NoEquation.C, E_NoSender.C, E_TooMany.C, E_NoText.C, E_BoardError.C].getD i 0) := KX.xis i hi
  have hk : ∀ j, j < 31 → PySem.W.kitOne K (.ref ([E_NoCells.C, E_NoProcedure.C, E_NoPath.C, E_NoBoard.C, E_NoNumber.C, E_NoDeed.C, E_NoWidth.C, E_NoTable.C, E_NoClass.C, E_NoState.C, E_NoClasses.C, E_NoClaims.C, E_NoOrder.C, E_NoFault.C, E_NoMany.C, E_NoList.C, E_NoIndex.C, E_NoDeeds.C, E_NotLet.C, E_NoReplica.C, E_Held.C, E_NoBook.C, E_NoRun.C, E_NoHistory.C, E_NoVectors.C, E_NoEquations.C, E_NoEquation.C, E_NoSender.C, E_TooMany.C, E_NoText.C, E_BoardError.C].getD i 0)) (.ref ([E_NoCells.C, E_NoProcedure.C, E_NoPath.C, E_NoBoard.C, E_NoNumber.C, E_NoDeed.C, E_NoWidth.C, E_NoTable.C, E_NoClass.C, E_NoState.C, E_NoClasses.C, E_NoClaims.C, E_NoOrder.C, E_NoFault.C, E_NoMany.C, E_NoList.C, E_NoIndex.C, E_NoDeeds.C, E_NotLet.C, E_NoReplica.C, E_Held.C, E_NoBook.C, E_NoRun.C, E_NoHistory.C, E_NoVectors.C, E_NoEquations.C, E_NoEquation.C, E_NoSender.C, E_TooMany.C, E_NoText.C, E_BoardError.C].getD j 0)) = some (decide (i = j) || decide (j + 1 = 31)) := fun j hj => KX.own i j hi hj
  generalize hC : ([E_NoCells.C, E_NoProcedure.C, E_NoPath.C, E_NoBoard.C, E_NoNumber.C, E_NoDeed.C, E_NoWidth.C, E_NoTable.C, E_NoClass.C, E_NoState.C, E_NoClasses.C, E_NoClaims.C, E_NoOrder.C, E_NoFault.C, E_NoMany.C, E_NoList.C, E_NoIndex.C, E_NoDeeds.C, E_NotLet.C, E_NoReplica.C, E_Held.C, E_NoBook.C, E_NoRun.C, E_NoHistory.C, E_NoVectors.C, E_NoEquations.C, E_NoEquation.C, E_NoSender.C, E_TooMany.C, E_NoText.C, E_BoardError.C] : List Addr).getD i 0 = C at hE hk he
  show dSeq _ _ _ ([.val (.ref p), .any, .hp true L] : List Sl)
  walk_at "wb"
  refine ⟨_, _, _, _, _, _, rfl, rfl, he, hE, hk 0 (by decide), ?_⟩
  walk_at "wb"
  refine ⟨_, _, _, _, _, _, rfl, rfl, he, hE, hk 1 (by decide), ?_⟩
  walk_at "wb"
  refine ⟨_, _, _, _, _, _, rfl, rfl, he, hE, hk 2 (by decide), ?_⟩
  walk_at "wb"
  refine ⟨_, _, _, _, _, _, rfl, rfl, he, hE, hk 3 (by decide), ?_⟩
  walk_at "wb"
  refine ⟨_, _, _, _, _, _, rfl, rfl, he, hE, hk 4 (by decide), ?_⟩
  walk_at "wb"
  refine ⟨_, _, _, _, _, _, rfl, rfl, he, hE, hk 5 (by decide), ?_⟩
  walk_at "wb"
  refine ⟨_, _, _, _, _, _, rfl, rfl, he, hE, hk 6 (by decide), ?_⟩
  walk_at "wb"
  refine ⟨_, _, _, _, _, _, rfl, rfl, he, hE, hk 7 (by decide), ?_⟩
  walk_at "wb"
  refine ⟨_, _, _, _, _, _, rfl, rfl, he, hE, hk 8 (by decide), ?_⟩
  walk_at "wb"
  refine ⟨_, _, _, _, _, _, rfl, rfl, he, hE, hk 9 (by decide), ?_⟩
  walk_at "wb"
  refine ⟨_, _, _, _, _, _, rfl, rfl, he, hE, hk 10 (by decide), ?_⟩
  walk_at "wb"
  refine ⟨_, _, _, _, _, _, rfl, rfl, he, hE, hk 11 (by decide), ?_⟩
  walk_at "wb"
  refine ⟨_, _, _, _, _, _, rfl, rfl, he, hE, hk 12 (by decide), ?_⟩
  walk_at "wb"
  refine ⟨_, _, _, _, _, _, rfl, rfl, he, hE, hk 13 (by decide), ?_⟩
  walk_at "wb"
  refine ⟨_, _, _, _, _, _, rfl, rfl, he, hE, hk 14 (by decide), ?_⟩
  walk_at "wb"
  refine ⟨_, _, _, _, _, _, rfl, rfl, he, hE, hk 15 (by decide), ?_⟩
  walk_at "wb"
  refine ⟨_, _, _, _, _, _, rfl, rfl, he, hE, hk 16 (by decide), ?_⟩
  walk_at "wb"
  refine ⟨_, _, _, _, _, _, rfl, rfl, he, hE, hk 17 (by decide), ?_⟩
  walk_at "wb"
  refine ⟨_, _, _, _, _, _, rfl, rfl, he, hE, hk 18 (by decide), ?_⟩
  walk_at "wb"
  refine ⟨_, _, _, _, _, _, rfl, rfl, he, hE, hk 19 (by decide), ?_⟩
  walk_at "wb"
  refine ⟨_, _, _, _, _, _, rfl, rfl, he, hE, hk 20 (by decide), ?_⟩
  walk_at "wb"
  refine ⟨_, _, _, _, _, _, rfl, rfl, he, hE, hk 21 (by decide), ?_⟩
  walk_at "wb"
  refine ⟨_, _, _, _, _, _, rfl, rfl, he, hE, hk 22 (by decide), ?_⟩
  walk_at "wb"
  refine ⟨_, _, _, _, _, _, rfl, rfl, he, hE, hk 23 (by decide), ?_⟩
  walk_at "wb"
  refine ⟨_, _, _, _, _, _, rfl, rfl, he, hE, hk 24 (by decide), ?_⟩
  walk_at "wb"
  refine ⟨_, _, _, _, _, _, rfl, rfl, he, hE, hk 25 (by decide), ?_⟩
  walk_at "wb"
  refine ⟨_, _, _, _, _, _, rfl, rfl, he, hE, hk 26 (by decide), ?_⟩
  walk_at "wb"
  refine ⟨_, _, _, _, _, _, rfl, rfl, he, hE, hk 27 (by decide), ?_⟩
  walk_at "wb"
  refine ⟨_, _, _, _, _, _, rfl, rfl, he, hE, hk 28 (by decide), ?_⟩
  walk_at "wb"
  refine ⟨_, _, _, _, _, _, rfl, rfl, he, hE, hk 29 (by decide), ?_⟩
  walk_at "wb"
  refine ⟨_, _, rfl, rfl, q _ _ ⟨?_, rfl⟩⟩
  simp only [List.range, List.range.loop, List.map, List.cons_append, List.nil_append, Bool.or_false, Nat.reduceAdd, Nat.reduceEqDiff, decide_false]
theorem ok_L_foreign (M : Blt mg) (hSeer : seerB K = true) (hTree : P.given.tree = none) (E_NoCells : Xc0 K mg "NoCells") (E_NoProcedure : Xc0 K mg "NoProcedure") (E_NoPath : Xc0 K mg "NoPath") (E_NoBoard : Xc0 K mg "NoBoard") (E_NoNumber : Xc0 K mg "NoNumber") (E_NoDeed : Xc0 K mg "NoDeed") (E_NoWidth : Xc0 K mg "NoWidth") (E_NoTable : Xc0 K mg "NoTable") (E_NoClass : Xc0 K mg "NoClass") (E_NoState : Xc0 K mg "NoState") (E_NoClasses : Xc0 K mg "NoClasses") (E_NoClaims : Xc0 K mg "NoClaims") (E_NoOrder : Xc0 K mg "NoOrder") (E_NoFault : Xc0 K mg "NoFault") (E_NoMany : Xc0 K mg "NoMany") (E_NoList : Xc0 K mg "NoList") (E_NoIndex : Xc0 K mg "NoIndex") (E_NoDeeds : Xc0 K mg "NoDeeds") (E_NotLet : Xc0 K mg "NotLet") (E_NoReplica : Xc0 K mg "NoReplica") (E_Held : Xc0 K mg "Held") (E_NoBook : Xc2 P w K mg base "NoBook" "procedure" "path") (E_NoRun : Xc1 P w K mg base "NoRun" "index") (E_NoHistory : Xc1 P w K mg base "NoHistory" "index") (E_NoVectors : Xc1 P w K mg base "NoVectors" "index") (E_NoEquations : Xc1 P w K mg base "NoEquations" "index") (E_NoEquation : Xc1 P w K mg base "NoEquation" "place") (E_NoSender : Xc1 P w K mg base "NoSender" "state") (E_TooMany : Xc1 P w K mg base "TooMany" "many") (E_NoText : Xc1 P w K mg base "NoText" "line") (E_BoardError : Xc0 K mg "BoardError") (KX : Kinds K [E_NoCells.C, E_NoProcedure.C, E_NoPath.C, E_NoBoard.C, E_NoNumber.C, E_NoDeed.C, E_NoWidth.C, E_NoTable.C, E_NoClass.C, E_NoState.C, E_NoClasses.C, E_NoClaims.C, E_NoOrder.C, E_NoFault.C, E_NoMany.C, E_NoList.C, E_NoIndex.C, E_NoDeeds.C, E_NotLet.C, E_NoReplica.C, E_Held.C, E_NoBook.C, E_NoRun.C, E_NoHistory.C, E_NoVectors.C, E_NoEquations.C, E_NoEquation.C, E_NoSender.C, E_TooMany.C, E_NoText.C, E_BoardError.C] [("ValueError", true), ("KeyError", false), ("IndexError", false), ("TypeError", false), ("ZeroDivisionError", false), ("AttributeError", false)]) (G_L_foreign : Gf K mg "_law_foreign" s_L_foreign ["_law_thing_here"]) : FnOk P w K mg base CX0 1 G_L_foreign.f G_L_foreign.fd ["_law_thing_here"] (spB K (spec_foreign [E_NoCells.C, E_NoProcedure.C, E_NoPath.C, E_NoBoard.C, E_NoNumber.C, E_NoDeed.C, E_NoWidth.C, E_NoTable.C, E_NoClass.C, E_NoState.C, E_NoClasses.C, E_NoClaims.C, E_NoOrder.C, E_NoFault.C, E_NoMany.C, E_NoList.C, E_NoIndex.C, E_NoDeeds.C, E_NotLet.C, E_NoReplica.C, E_Held.C, E_NoBook.C, E_NoRun.C, E_NoHistory.C, E_NoVectors.C, E_NoEquations.C, E_NoEquation.C, E_NoSender.C, E_TooMany.C, E_NoText.C, E_BoardError.C])) := by
  refine fn_okB G_L_foreign.F sc_L_foreign (by decide) (fun ds L Q ⟨a, e, _⟩ => by rw [e]; rfl) fun cdv A outer s0 H E hr => ⟨_, _, (dss_cons (ds_if (DW.dt (dw_or (dt_tr K (de_isE K 1 (de_var 0) (pe_bltn (v := .ty "KeyError") rfl M.KeyError (by decide +kernel) rfl (by decide) (by decide)) (.inr ⟨_, rfl⟩) M.isinstance)) (dw_or (dt_tr K (de_isE K 1 (de_var 0) (pe_bltn (v := .ty "IndexError") rfl M.IndexError (by decide +kernel) rfl (by decide) (by decide)) (.inr ⟨_, rfl⟩) M.isinstance)) (dw_or1 (dt_tr K (de_isE K 1 (de_var 0) (pe_bltn (v := .ty "TypeError") rfl M.TypeError (by decide +kernel) rfl (by decide) (by decide)) (.inr ⟨_, rfl⟩) M.isinstance)))))) (dss_one (ds_ret de_bl)) dss_nil)
      (dss_one (ds_ret (de_or (de_isE K 1 (de_var 0) (pe_bltn (v := .ty "ZeroDivisionError") rfl M.ZeroDivisionError (by decide +kernel) rfl (by decide) (by decide)) (.inr ⟨_, rfl⟩) M.isinstance) (de_one (de_isE K 1 (de_var 0) (pe_bltn (v := .ty "AttributeError") rfl M.AttributeError (by decide +kernel) rfl (by decide) (by decide)) (.inr ⟨_, rfl⟩) M.isinstance)))))), ?_⟩
  rintro ds L Q ⟨⟨p, i⟩, rfl, ⟨hl, hi, d, he⟩, q⟩
  have hE : XisC K ([E_NoCells.C, E_NoProcedure.C, E_NoPath.C, E_NoBoard.C, E_NoNumber.C, E_NoDeed.C, E_NoWidth.C, E_NoTable.C, E_NoClass.C, E_NoState.C, E_NoClasses.C, E_NoClaims.C, E_NoOrder.C, E_NoFault.C, E_NoMany.C, E_NoList.C, E_NoIndex.C, E_NoDeeds.C, E_NotLet.C, E_NoReplica.C, E_Held.C, E_NoBook.C, E_NoRun.C, E_NoHistory.C, E_NoVectors.C, E_NoEquations.C, E_NoEquation.C, E_NoSender.C, E_TooMany.C, E_NoText.C, E_BoardError.C].getD i 0) := KX.xis i hi
  have ht : ∀ t ∈ ([("ValueError", true), ("KeyError", false), ("IndexError", false), ("TypeError", false), ("ZeroDivisionError", false), ("AttributeError", false)] : List (String × Bool)), PySem.W.kitOne K (.ref ([E_NoCells.C, E_NoProcedure.C, E_NoPath.C, E_NoBoard.C, E_NoNumber.C, E_NoDeed.C, E_NoWidth.C, E_NoTable.C, E_NoClass.C, E_NoState.C, E_NoClasses.C, E_NoClaims.C, E_NoOrder.C, E_NoFault.C, E_NoMany.C, E_NoList.C, E_NoIndex.C, E_NoDeeds.C, E_NotLet.C, E_NoReplica.C, E_Held.C, E_NoBook.C, E_NoRun.C, E_NoHistory.C, E_NoVectors.C, E_NoEquations.C, E_NoEquation.C, E_NoSender.C, E_TooMany.C, E_NoText.C, E_BoardError.C].getD i 0)) (.type t.1) = some t.2 := KX.typ i hi
  generalize hC : ([E_NoCells.C, E_NoProcedure.C, E_NoPath.C, E_NoBoard.C, E_NoNumber.C, E_NoDeed.C, E_NoWidth.C, E_NoTable.C, E_NoClass.C, E_NoState.C, E_NoClasses.C, E_NoClaims.C, E_NoOrder.C, E_NoFault.C, E_NoMany.C, E_NoList.C, E_NoIndex.C, E_NoDeeds.C, E_NotLet.C, E_NoReplica.C, E_Held.C, E_NoBook.C, E_NoRun.C, E_NoHistory.C, E_NoVectors.C, E_NoEquations.C, E_NoEquation.C, E_NoSender.C, E_TooMany.C, E_NoText.C, E_BoardError.C] : List Addr).getD i 0 = C at hE ht he
  show dSeq _ _ _ ([.val (.ref p), .hp true L] : List Sl)
  walk_at "wb"
  refine ⟨_, _, _, _, _, _, rfl, rfl, he, hE, ht ("KeyError", false) (by simp), ?_⟩
  walk_at "wb"
  refine ⟨_, _, _, _, _, _, rfl, rfl, he, hE, ht ("IndexError", false) (by simp), ?_⟩
  walk_at "wb"
  refine ⟨_, _, _, _, _, _, rfl, rfl, he, hE, ht ("TypeError", false) (by simp), ?_⟩
  walk_at "wb"
  refine ⟨_, _, _, _, _, _, rfl, rfl, he, hE, ht ("ZeroDivisionError", false) (by simp), ?_⟩
  walk_at "wb"
  refine ⟨_, _, _, _, _, _, rfl, rfl, he, hE, ht ("AttributeError", false) (by simp), ?_⟩
  walk_at "wb"
  exact ⟨_, _, rfl, rfl, q _ _ ⟨rfl, rfl⟩⟩
theorem ok_L_made (M : Blt mg) (hSeer : seerB K = true) (hTree : P.given.tree = none) (E_NoCells : Xc0 K mg "NoCells") (E_NoProcedure : Xc0 K mg "NoProcedure") (E_NoPath : Xc0 K mg "NoPath") (E_NoBoard : Xc0 K mg "NoBoard") (E_NoNumber : Xc0 K mg "NoNumber") (E_NoDeed : Xc0 K mg "NoDeed") (E_NoWidth : Xc0 K mg "NoWidth") (E_NoTable : Xc0 K mg "NoTable") (E_NoClass : Xc0 K mg "NoClass") (E_NoState : Xc0 K mg "NoState") (E_NoClasses : Xc0 K mg "NoClasses") (E_NoClaims : Xc0 K mg "NoClaims") (E_NoOrder : Xc0 K mg "NoOrder") (E_NoFault : Xc0 K mg "NoFault") (E_NoMany : Xc0 K mg "NoMany") (E_NoList : Xc0 K mg "NoList") (E_NoIndex : Xc0 K mg "NoIndex") (E_NoDeeds : Xc0 K mg "NoDeeds") (E_NotLet : Xc0 K mg "NotLet") (E_NoReplica : Xc0 K mg "NoReplica") (E_Held : Xc0 K mg "Held") (E_NoBook : Xc2 P w K mg base "NoBook" "procedure" "path") (E_NoRun : Xc1 P w K mg base "NoRun" "index") (E_NoHistory : Xc1 P w K mg base "NoHistory" "index") (E_NoVectors : Xc1 P w K mg base "NoVectors" "index") (E_NoEquations : Xc1 P w K mg base "NoEquations" "index") (E_NoEquation : Xc1 P w K mg base "NoEquation" "place") (E_NoSender : Xc1 P w K mg base "NoSender" "state") (E_TooMany : Xc1 P w K mg base "TooMany" "many") (E_NoText : Xc1 P w K mg base "NoText" "line") (E_BoardError : Xc0 K mg "BoardError") (G_L_made : Gf K mg "_law_made" s_L_made ["_law_first", "_law_second"]) : FnOk P w K mg base CX0 3 G_L_made.f G_L_made.fd ["_law_first", "_law_second"] (spB K (spec_made [E_NoCells.C, E_NoProcedure.C, E_NoPath.C, E_NoBoard.C, E_NoNumber.C, E_NoDeed.C, E_NoWidth.C, E_NoTable.C, E_NoClass.C, E_NoState.C, E_NoClasses.C, E_NoClaims.C, E_NoOrder.C, E_NoFault.C, E_NoMany.C, E_NoList.C, E_NoIndex.C, E_NoDeeds.C, E_NotLet.C, E_NoReplica.C, E_Held.C, E_NoBook.C, E_NoRun.C, E_NoHistory.C, E_NoVectors.C, E_NoEquations.C, E_NoEquation.C, E_NoSender.C, E_TooMany.C, E_NoText.C, E_BoardError.C])) := by
  refine fn_okB G_L_made.F sc_L_made (by decide) (fun ds L Q ⟨a, e, _⟩ => by rw [e]; rfl) fun cdv A outer s0 H E hr => ⟨_, _, (dss_cons (ds_set (i := 2) sc_L_made.nd (DF.v (df_lst (da_cons (de_newX0 3 E_NoCells) (da_cons (de_newX0 3 E_NoProcedure) (da_cons (de_newX0 3 E_NoPath) (da_cons (de_newX0 3 E_NoBoard) (da_cons (de_newX0 3 E_NoNumber) (da_cons (de_newX0 3 E_NoDeed) (da_cons (de_newX0 3 E_NoWidth) (da_cons (de_newX0 3 E_NoTable) (da_cons (de_newX0 3 E_NoClass) da_nil))))))))))))
      (dss_cons (ds_set (i := 2) sc_L_made.nd (DF.v (df_cat (de_var 2) (DF.v (df_lst (da_cons (de_newX0 3 E_NoState) (da_cons (de_newX0 3 E_NoClasses) (da_cons (de_newX0 3 E_NoClaims) (da_cons (de_newX0 3 E_NoOrder) (da_cons (de_newX0 3 E_NoFault) (da_cons (de_newX0 3 E_NoMany) (da_cons (de_newX0 3 E_NoList) (da_cons (de_newX0 3 E_NoIndex) da_nil)))))))))))))
      (dss_cons (ds_set (i := 2) sc_L_made.nd (DF.v (df_cat (de_var 2) (DF.v (df_lst (da_cons (de_newX0 3 E_NoDeeds) (da_cons (de_newX0 3 E_NotLet) (da_cons (de_newX0 3 E_NoReplica) (da_cons (de_newX0 3 E_Held) da_nil)))))))))
      (dss_cons (ds_set (i := 2) sc_L_made.nd (DF.v (df_cat (de_var 2) (DF.v (df_lst (da_cons (de_newX2 3 E_NoBook (hr.mono (by decide)) (da_cons (de_var 0) (da_cons (de_var 1) da_nil))) (da_cons (de_newX1 3 E_NoRun (hr.mono (by decide)) (de_var 0)) (da_cons (de_newX1 3 E_NoHistory (hr.mono (by decide)) (de_var 0)) (da_cons (de_newX1 3 E_NoVectors (hr.mono (by decide)) (de_var 0)) (da_cons (de_newX1 3 E_NoEquations (hr.mono (by decide)) (de_var 0)) da_nil))))))))))
      (dss_one (ds_ret (DF.v (df_cat (de_var 2) (DF.v (df_lst (da_cons (de_newX1 3 E_NoEquation (hr.mono (by decide)) (de_var 0)) (da_cons (de_newX1 3 E_NoSender (hr.mono (by decide)) (de_var 0)) (da_cons (de_newX1 3 E_TooMany (hr.mono (by decide)) (de_var 0)) (da_cons (de_newX1 3 E_NoText (hr.mono (by decide)) (de_var 0)) da_nil)))))))))))))), ?_⟩
  rintro ds L Q ⟨⟨x, y⟩, rfl, -, q⟩
  show dSeq _ _ _ ([.val x, .val y, .any, .hp true L] : List Sl)
  have m : Made [E_NoCells.C, E_NoProcedure.C, E_NoPath.C, E_NoBoard.C, E_NoNumber.C, E_NoDeed.C, E_NoWidth.C, E_NoTable.C, E_NoClass.C, E_NoState.C, E_NoClasses.C, E_NoClaims.C, E_NoOrder.C, E_NoFault.C, E_NoMany.C, E_NoList.C, E_NoIndex.C, E_NoDeeds.C, E_NotLet.C, E_NoReplica.C, E_Held.C, E_NoBook.C, E_NoRun.C, E_NoHistory.C, E_NoVectors.C, E_NoEquations.C, E_NoEquation.C, E_NoSender.C, E_TooMany.C, E_NoText.C, E_BoardError.C] L [] := fun i h => absurd h (Nat.not_lt_zero _)
  walk_at "wb"
  intro p0 h0
  obtain ⟨L0, g0, m0⟩ := m.new0 (C := E_NoCells.C) h0 rfl
  replace m0 : Made _ L0 [p0] := m0
  rw [← g0]
  simp only [List.set_cons_succ, List.set_cons_zero]
  walk_at "wb"
  intro p1 h1
  obtain ⟨L1, g1, m1⟩ := m0.new0 (C := E_NoProcedure.C) h1 rfl
  replace m1 : Made _ L1 [p0, p1] := m1
  rw [← g1]
  simp only [List.set_cons_succ, List.set_cons_zero]
  walk_at "wb"
  intro p2 h2
  obtain ⟨L2, g2, m2⟩ := m1.new0 (C := E_NoPath.C) h2 rfl
  replace m2 : Made _ L2 [p0, p1, p2] := m2
  rw [← g2]
  simp only [List.set_cons_succ, List.set_cons_zero]
  walk_at "wb"
  intro p3 h3
  obtain ⟨L3, g3, m3⟩ := m2.new0 (C := E_NoBoard.C) h3 rfl
  replace m3 : Made _ L3 [p0, p1, p2, p3] := m3
  rw [← g3]
  simp only [List.set_cons_succ, List.set_cons_zero]
  walk_at "wb"
  intro p4 h4
  obtain ⟨L4, g4, m4⟩ := m3.new0 (C := E_NoNumber.C) h4 rfl
  replace m4 : Made _ L4 [p0, p1, p2, p3, p4] := m4
  rw [← g4]
  simp only [List.set_cons_succ, List.set_cons_zero]
  walk_at "wb"
  intro p5 h5
  obtain ⟨L5, g5, m5⟩ := m4.new0 (C := E_NoDeed.C) h5 rfl
  replace m5 : Made _ L5 [p0, p1, p2, p3, p4, p5] := m5
  rw [← g5]
  simp only [List.set_cons_succ, List.set_cons_zero]
  walk_at "wb"
  intro p6 h6
  obtain ⟨L6, g6, m6⟩ := m5.new0 (C := E_NoWidth.C) h6 rfl
  replace m6 : Made _ L6 [p0, p1, p2, p3, p4, p5, p6] := m6
  rw [← g6]
  simp only [List.set_cons_succ, List.set_cons_zero]
  walk_at "wb"
  intro p7 h7
  obtain ⟨L7, g7, m7⟩ := m6.new0 (C := E_NoTable.C) h7 rfl
  replace m7 : Made _ L7 [p0, p1, p2, p3, p4, p5, p6, p7] := m7
  rw [← g7]
  simp only [List.set_cons_succ, List.set_cons_zero]
  walk_at "wb"
  intro p8 h8
  obtain ⟨L8, g8, m8⟩ := m7.new0 (C := E_NoClass.C) h8 rfl
  replace m8 : Made _ L8 [p0, p1, p2, p3, p4, p5, p6, p7, p8] := m8
  rw [← g8]
  simp only [List.set_cons_succ, List.set_cons_zero]
  walk_at "wb"
  intro p9 h9
  obtain ⟨L9, g9, m9⟩ := m8.new0 (C := E_NoState.C) h9 rfl
  replace m9 : Made _ L9 [p0, p1, p2, p3, p4, p5, p6, p7, p8, p9] := m9
  rw [← g9]
  simp only [List.set_cons_succ, List.set_cons_zero]
  walk_at "wb"
  intro p10 h10
  obtain ⟨L10, g10, m10⟩ := m9.new0 (C := E_NoClasses.C) h10 rfl
  replace m10 : Made _ L10 [p0, p1, p2, p3, p4, p5, p6, p7, p8, p9, p10] := m10
  rw [← g10]
  simp only [List.set_cons_succ, List.set_cons_zero]
  walk_at "wb"
  intro p11 h11
  obtain ⟨L11, g11, m11⟩ := m10.new0 (C := E_NoClaims.C) h11 rfl
  replace m11 : Made _ L11 [p0, p1, p2, p3, p4, p5, p6, p7, p8, p9, p10, p11] := m11
  rw [← g11]
  simp only [List.set_cons_succ, List.set_cons_zero]
  walk_at "wb"
  intro p12 h12
  obtain ⟨L12, g12, m12⟩ := m11.new0 (C := E_NoOrder.C) h12 rfl
  replace m12 : Made _ L12 [p0, p1, p2, p3, p4, p5, p6, p7, p8, p9, p10, p11, p12] := m12
  rw [← g12]
  simp only [List.set_cons_succ, List.set_cons_zero]
  walk_at "wb"
  intro p13 h13
  obtain ⟨L13, g13, m13⟩ := m12.new0 (C := E_NoFault.C) h13 rfl
  replace m13 : Made _ L13 [p0, p1, p2, p3, p4, p5, p6, p7, p8, p9, p10, p11, p12, p13] := m13
  rw [← g13]
  simp only [List.set_cons_succ, List.set_cons_zero]
  walk_at "wb"
  intro p14 h14
  obtain ⟨L14, g14, m14⟩ := m13.new0 (C := E_NoMany.C) h14 rfl
  replace m14 : Made _ L14 [p0, p1, p2, p3, p4, p5, p6, p7, p8, p9, p10, p11, p12, p13, p14] := m14
  rw [← g14]
  simp only [List.set_cons_succ, List.set_cons_zero]
  walk_at "wb"
  intro p15 h15
  obtain ⟨L15, g15, m15⟩ := m14.new0 (C := E_NoList.C) h15 rfl
  replace m15 : Made _ L15 [p0, p1, p2, p3, p4, p5, p6, p7, p8, p9, p10, p11, p12, p13, p14, p15] := m15
  rw [← g15]
  simp only [List.set_cons_succ, List.set_cons_zero]
  walk_at "wb"
  intro p16 h16
  obtain ⟨L16, g16, m16⟩ := m15.new0 (C := E_NoIndex.C) h16 rfl
  replace m16 : Made _ L16 [p0, p1, p2, p3, p4, p5, p6, p7, p8, p9, p10, p11, p12, p13, p14, p15, p16] := m16
  rw [← g16]
  simp only [List.set_cons_succ, List.set_cons_zero]
  walk_at "wb"
  intro p17 h17
  obtain ⟨L17, g17, m17⟩ := m16.new0 (C := E_NoDeeds.C) h17 rfl
  replace m17 : Made _ L17 [p0, p1, p2, p3, p4, p5, p6, p7, p8, p9, p10, p11, p12, p13, p14, p15, p16, p17] := m17
  rw [← g17]
  simp only [List.set_cons_succ, List.set_cons_zero]
  walk_at "wb"
  intro p18 h18
  obtain ⟨L18, g18, m18⟩ := m17.new0 (C := E_NotLet.C) h18 rfl
  replace m18 : Made _ L18 [p0, p1, p2, p3, p4, p5, p6, p7, p8, p9, p10, p11, p12, p13, p14, p15, p16, p17, p18] := m18
  rw [← g18]
  simp only [List.set_cons_succ, List.set_cons_zero]
  walk_at "wb"
  intro p19 h19
  obtain ⟨L19, g19, m19⟩ := m18.new0 (C := E_NoReplica.C) h19 rfl
  replace m19 : Made _ L19 [p0, p1, p2, p3, p4, p5, p6, p7, p8, p9, p10, p11, p12, p13, p14, p15, p16, p17, p18, p19] := m19
  rw [← g19]
  simp only [List.set_cons_succ, List.set_cons_zero]
  walk_at "wb"
  intro p20 h20
  obtain ⟨L20, g20, m20⟩ := m19.new0 (C := E_Held.C) h20 rfl
  replace m20 : Made _ L20 [p0, p1, p2, p3, p4, p5, p6, p7, p8, p9, p10, p11, p12, p13, p14, p15, p16, p17, p18, p19, p20] := m20
  rw [← g20]
  simp only [List.set_cons_succ, List.set_cons_zero]
  walk_at "wb"
  refine ⟨_, _, rfl, _, _, rfl, ?_⟩
  intro p21 d21 h21 i21 j21
  obtain ⟨L21, g21, m21⟩ := m20.new1 (C := E_NoBook.C) h21 i21 j21 rfl
  replace m21 : Made _ L21 [p0, p1, p2, p3, p4, p5, p6, p7, p8, p9, p10, p11, p12, p13, p14, p15, p16, p17, p18, p19, p20, p21] := m21
  rw [← g21]
  simp only [List.set_cons_succ, List.set_cons_zero]
  walk_at "wb"
  intro p22 d22 h22 i22 j22
  obtain ⟨L22, g22, m22⟩ := m21.new1 (C := E_NoRun.C) h22 i22 j22 rfl
  replace m22 : Made _ L22 [p0, p1, p2, p3, p4, p5, p6, p7, p8, p9, p10, p11, p12, p13, p14, p15, p16, p17, p18, p19, p20, p21, p22] := m22
  rw [← g22]
  simp only [List.set_cons_succ, List.set_cons_zero]
  walk_at "wb"
  intro p23 d23 h23 i23 j23
  obtain ⟨L23, g23, m23⟩ := m22.new1 (C := E_NoHistory.C) h23 i23 j23 rfl
  replace m23 : Made _ L23 [p0, p1, p2, p3, p4, p5, p6, p7, p8, p9, p10, p11, p12, p13, p14, p15, p16, p17, p18, p19, p20, p21, p22, p23] := m23
  rw [← g23]
  simp only [List.set_cons_succ, List.set_cons_zero]
  walk_at "wb"
  intro p24 d24 h24 i24 j24
  obtain ⟨L24, g24, m24⟩ := m23.new1 (C := E_NoVectors.C) h24 i24 j24 rfl
  replace m24 : Made _ L24 [p0, p1, p2, p3, p4, p5, p6, p7, p8, p9, p10, p11, p12, p13, p14, p15, p16, p17, p18, p19, p20, p21, p22, p23, p24] := m24
  rw [← g24]
  simp only [List.set_cons_succ, List.set_cons_zero]
  walk_at "wb"
  intro p25 d25 h25 i25 j25
  obtain ⟨L25, g25, m25⟩ := m24.new1 (C := E_NoEquations.C) h25 i25 j25 rfl
  replace m25 : Made _ L25 [p0, p1, p2, p3, p4, p5, p6, p7, p8, p9, p10, p11, p12, p13, p14, p15, p16, p17, p18, p19, p20, p21, p22, p23, p24, p25] := m25
  rw [← g25]
  simp only [List.set_cons_succ, List.set_cons_zero]
  walk_at "wb"
  intro p26 d26 h26 i26 j26
  obtain ⟨L26, g26, m26⟩ := m25.new1 (C := E_NoEquation.C) h26 i26 j26 rfl
  replace m26 : Made _ L26 [p0, p1, p2, p3, p4, p5, p6, p7, p8, p9, p10, p11, p12, p13, p14, p15, p16, p17, p18, p19, p20, p21, p22, p23, p24, p25, p26] := m26
  rw [← g26]
  simp only [List.set_cons_succ, List.set_cons_zero]
  walk_at "wb"
  intro p27 d27 h27 i27 j27
  obtain ⟨L27, g27, m27⟩ := m26.new1 (C := E_NoSender.C) h27 i27 j27 rfl
  replace m27 : Made _ L27 [p0, p1, p2, p3, p4, p5, p6, p7, p8, p9, p10, p11, p12, p13, p14, p15, p16, p17, p18, p19, p20, p21, p22, p23, p24, p25, p26, p27] := m27
  rw [← g27]
  simp only [List.set_cons_succ, List.set_cons_zero]
  walk_at "wb"
  intro p28 d28 h28 i28 j28
  obtain ⟨L28, g28, m28⟩ := m27.new1 (C := E_TooMany.C) h28 i28 j28 rfl
  replace m28 : Made _ L28 [p0, p1, p2, p3, p4, p5, p6, p7, p8, p9, p10, p11, p12, p13, p14, p15, p16, p17, p18, p19, p20, p21, p22, p23, p24, p25, p26, p27, p28] := m28
  rw [← g28]
  simp only [List.set_cons_succ, List.set_cons_zero]
  walk_at "wb"
  intro p29 d29 h29 i29 j29
  obtain ⟨L29, g29, m29⟩ := m28.new1 (C := E_NoText.C) h29 i29 j29 rfl
  replace m29 : Made _ L29 [p0, p1, p2, p3, p4, p5, p6, p7, p8, p9, p10, p11, p12, p13, p14, p15, p16, p17, p18, p19, p20, p21, p22, p23, p24, p25, p26, p27, p28, p29] := m29
  rw [← g29]
  simp only [List.set_cons_succ, List.set_cons_zero]
  walk_at "wb"
  exact ⟨_, _, rfl, rfl, q _ _ ⟨[p0, p1, p2, p3, p4, p5, p6, p7, p8, p9, p10, p11, p12, p13, p14, p15, p16, p17, p18, p19, p20, p21, p22, p23, p24, p25, p26, p27, p28, p29], rfl, rfl, m29⟩⟩
end

/-! ### the law -/
local macro_rules | `(tactic| walk_at "bx") => `(tactic| first | with_reducible assumption | exact updB_same | (refine getB_ne ?_ ?_; (first | with_reducible assumption | (refine Ne.symm ?_; with_reducible assumption)); walk_at "bx"))
local macro_rules | `(tactic| walk_at "wb1") => `(tactic| first
  | with_reducible refine Go.go ?_
  | refine GoH1.go ⟨_, rfl, ?_⟩
  | refine GoH2.go ⟨_, _, rfl, ?_⟩
  | ((with_reducible refine ex_id ?_); first | ((with_reducible refine' i_fldB2 ?hg ?hl ?hc ?hf ?_); (case hg => exact rfl); (case hl => walk_at "bx"); (case hc => assumption); (case hf => exact rfl)) | ((with_reducible refine' i_putB2 ?hg ?hl ?hc ?hf ?_); (case hg => exact rfl); (case hl => walk_at "bx"); (case hc => assumption); (case hf => exact Nat.le_of_ble_eq_true rfl)) | ((with_reducible refine' i_augB2 ?hg ?hl ?hc ?hf ?_); (case hg => exact rfl); (case hl => walk_at "bx"); (case hc => assumption); (case hf => exact rfl)) | ((with_reducible refine' i_augB3 ?hg ?hl ?hf ?_); (case hg => exact rfl); (case hl => walk_at "bx"); (case hf => exact Nat.le_of_ble_eq_true rfl)) | ((with_reducible refine' i_appB3 ?hg ?hl ?hz ?_); (case hg => exact rfl); (case hl => walk_at "bx"); (case hz => walk_at "side")) | ((with_reducible refine' i_stB2 ?hg ?hl ?ha ?_); (case hg => exact rfl); (case hl => walk_at "bx"); (case ha => exact rfl)) | ((with_reducible refine' i_ixB2 ?hg ?hl ?ha ?_); (case hg => exact rfl); (case hl => walk_at "bx"); (case ha => exact rfl)) | ((with_reducible refine' i_lenB2 ?hg ?hl ?_); (case hg => exact rfl); (case hl => walk_at "bx")) | ((with_reducible refine' i_frzB2 ?hg ?hl ?_); (case hg => exact rfl); (case hl => walk_at "bx")) | ((with_reducible refine' i_dgB2 ?hg ?hl ?ha ?_); (case hg => exact rfl); (case hl => walk_at "bx"); (case ha => exact rfl)) | ((with_reducible refine' i_dpB2 ?hg ?hl ?ha ?hz ?_); (case hg => exact rfl); (case hl => walk_at "bx"); (case ha => exact rfl); (case hz => exact lt_sz rfl)) | ((with_reducible refine' i_listB2 ?hg ?hl ?_); (case hg => exact rfl); (case hl => walk_at "bx")) | ((with_reducible refine' i_methB2 ?hg ?hl ?hn ?_); (case hg => exact rfl); (case hl => walk_at "bx"); (case hn => exact rfl)))
  | ((with_reducible refine' i_appB2 ?hg ?hl ?_); (case hg => exact rfl); (case hl => walk_at "bx"))
  | walk_at "wr1")
local macro_rules | `(tactic| walk_at "wb") => `(tactic| repeat walk_at "wb1")

local macro_rules | `(tactic| walk_at "wq1") => `(tactic| first
  | walk_at "wp1"
  | ((with_reducible refine' i_ixR ?hh ?_); (case hh => omega))
  | ((with_reducible refine' i_ixI ?hh ?_); (case hh => omega))
  | ((with_reducible refine' i_ixIO ?hg ?hh ?_); (case hg => exact rfl); (case hh => omega))
  | ((with_reducible refine' i_ixRO ?hg ?hh ?_); (case hg => exact rfl); (case hh => omega))
  | ((with_reducible refine' i_mul ?hh ?_); (case hh => first | exact fitsB (Mx.Bd.ent (by assumption) _) (Mx.Bd.ent (by assumption) _) (by omega) | exact fitsB (by assumption) (Mx.Bd.ent (by assumption) _) (by omega) | exact fitsB (Mx.Bd.ent (by assumption) _) (by assumption) (by omega) | exact fitsB (by assumption) (by assumption) (by omega))))
local macro_rules | `(tactic| walk_at "wq") => `(tactic| repeat walk_at "wq1")

abbrev s_L_thing : Stmt := topS 39
theorem sc_L_thing : FnScope ["_law_pool_here", "_law_kind", "_law_number_here"] ["_law_pool_here"] (defScope s_L_thing) := ⟨rfl, rfl, rfl, by decide +kernel, rfl, by decide +kernel, by decide +kernel⟩

abbrev s_law : Stmt := topS 41
theorem sc_law : FnScope ["_law_script", "_law_pool_here", "_law_first", "_law_second", "_law_made_here", "_law_at", "_law_other", "_law_book", "_law_told", "_law_caught", "e", "_law_k", "$"] ["_law_script"] (defScope s_law) := ⟨rfl, rfl, rfl, by decide +kernel, rfl, by decide +kernel, by decide +kernel⟩

abbrev s_NoBook_init : Stmt := methS 3 0
theorem sc_NoBook_init : FnScope ["self", "procedure", "path"] ["self", "procedure", "path"] (defScope s_NoBook_init) := ⟨rfl, rfl, rfl, by decide +kernel, rfl, by decide +kernel, by decide +kernel⟩

abbrev s_NoRun_init : Stmt := methS 6 0
theorem sc_NoRun_init : FnScope ["self", "index"] ["self", "index"] (defScope s_NoRun_init) := ⟨rfl, rfl, rfl, by decide +kernel, rfl, by decide +kernel, by decide +kernel⟩

abbrev s_NoHistory_init : Stmt := methS 10 0
theorem sc_NoHistory_init : FnScope ["self", "index"] ["self", "index"] (defScope s_NoHistory_init) := ⟨rfl, rfl, rfl, by decide +kernel, rfl, by decide +kernel, by decide +kernel⟩

abbrev s_NoVectors_init : Stmt := methS 12 0
theorem sc_NoVectors_init : FnScope ["self", "index"] ["self", "index"] (defScope s_NoVectors_init) := ⟨rfl, rfl, rfl, by decide +kernel, rfl, by decide +kernel, by decide +kernel⟩

abbrev s_NoEquations_init : Stmt := methS 16 0
theorem sc_NoEquations_init : FnScope ["self", "index"] ["self", "index"] (defScope s_NoEquations_init) := ⟨rfl, rfl, rfl, by decide +kernel, rfl, by decide +kernel, by decide +kernel⟩

abbrev s_NoEquation_init : Stmt := methS 15 0
theorem sc_NoEquation_init : FnScope ["self", "place"] ["self", "place"] (defScope s_NoEquation_init) := ⟨rfl, rfl, rfl, by decide +kernel, rfl, by decide +kernel, by decide +kernel⟩

abbrev s_NoSender_init : Stmt := methS 17 0
theorem sc_NoSender_init : FnScope ["self", "state"] ["self", "state"] (defScope s_NoSender_init) := ⟨rfl, rfl, rfl, by decide +kernel, rfl, by decide +kernel, by decide +kernel⟩

abbrev s_TooMany_init : Stmt := methS 30 0
theorem sc_TooMany_init : FnScope ["self", "many"] ["self", "many"] (defScope s_TooMany_init) := ⟨rfl, rfl, rfl, by decide +kernel, rfl, by decide +kernel, by decide +kernel⟩

abbrev s_NoText_init : Stmt := methS 31 0
theorem sc_NoText_init : FnScope ["self", "line"] ["self", "line"] (defScope s_NoText_init) := ⟨rfl, rfl, rfl, by decide +kernel, rfl, by decide +kernel, by decide +kernel⟩

/-- a thing, kept in a field -/
def ThingD (d : D) : Prop := Dep 19 d
def spec_thing : SpecP := SpecP.of (fun _ : Unit => []) PoolP (fun _ => True) (fun _ r => ∃ d, r = .d d ∧ ThingD d)
mutual
theorem eqvK_self : ∀ d : D, noObj d = true → PyData.eqv (toP d) (toP d) = true
  | .non, _ => by simp [toP, PyData.eqv]
  | .bl b, _ => by simp [toP, PyData.eqv]
  | .int i, _ => by simp [toP, PyData.eqv]
  | .str i, _ => by simp [toP, PyData.eqv]
  | .lst ds, h => by simp only [toP, PyData.eqv]; exact eqvKs_self ds h
  | .tup ds, h => by simp only [toP, PyData.eqv]; exact eqvKs_self ds h
  | .obj _ _, h => by cases h
  | .emp, h => by cases h
  | .ref _, h => by cases h
theorem eqvKs_self : ∀ ds : List D, noObjs ds = true → PyData.eqvAll (toPs ds) (toPs ds) = true
  | [], _ => by simp [toPs, PyData.eqvAll]
  | d :: ds, h => by
    have h : (noObj d && noObjs ds) = true := h
    rw [Bool.and_eq_true] at h
    simp only [toPs, PyData.eqvAll, Bool.and_eq_true]
    exact ⟨eqvK_self d h.1, eqvKs_self ds h.2⟩
end
theorem i_neSelfK {d : D} {R : D → Prop} (h : PlD d) (q : R (.bl false)) : fEqD true d d R :=
  ⟨h, h, by rw [if_pos rfl, show eqD d d = true from eqvK_self d h.no]; exact q⟩
theorem pl_bls {ds : List Nat} {f : Nat → Bool} : PlD (.lst (ds.map fun j => .bl (f j))) := (pl_lst (n := 1) fun d hd => by
  obtain ⟨j, _, rfl⟩ := List.mem_map.mp hd
  exact pl_bl _).pl (by decide)
theorem newX {L : Bxs} {p dd C : Addr} {fs : List (Str × D)} (h3 : p ≠ dd) : ∃ L1, L1 = updB (updB L dd (.xd dd fs)) p (.exc p C (some dd)) ∧ L1 p = some (.exc p C (some dd)) ∧ L1 dd = some (.xd dd fs) :=
  ⟨_, rfl, updB_same, by rw [updB_ne h3.symm, updB_same]⟩
section
variable {P : Program} {w : World} {K : PySem.W.Frag} {mg : Str → Option Value} {base : Heap}
theorem ok_L_thing (M : Blt mg) (hSeer : seerB K = true) (hTree : P.given.tree = none) (G_L_draw : Gf K mg "_law_draw" s_L_draw ["_law_pool_here", "_law_many"]) (G_L_number : Gf K mg "_law_number" s_L_number ["_law_pool_here"]) (G_L_thing : Gf K mg "_law_thing" s_L_thing ["_law_pool_here"]) : FnOk P w K mg base CX0 4 G_L_thing.f G_L_thing.fd ["_law_pool_here"] (spP K spec_thing) := by
  have H_L_draw := ok_L_draw (P := P) (w := w) (base := base) M G_L_draw
  have H_L_number := ok_L_number (P := P) (w := w) (base := base) M G_L_draw G_L_number
  refine fn_okP G_L_thing.F sc_L_thing (fun pl ds Q ⟨_, a, e, _⟩ => by rw [e]; rfl) fun cdv A outer s0 H E hr => ⟨_, _, (dss_cons (ds_set (i := 1) sc_L_thing.nd (de_callP K 0 H_L_draw (hr.mono (by decide)) G_L_draw.g G_L_draw.F.kp G_L_draw.b (da_cons de_int da_nil)))
      (dss_cons (ds_set (i := 2) sc_L_thing.nd (de_callP K 0 H_L_number (hr.mono (by decide)) G_L_number.g G_L_number.F.kp G_L_number.b da_nil))
      (dss_one (ds_ret (de_ix K (DF.v (df_lst (da_cons (de_var 2) (da_cons de_non (da_cons de_bl (da_cons de_str (da_cons (de_tup (da_cons de_int (da_cons (de_var 2) da_nil))) (da_cons (DF.v (df_lst (da_cons (de_var 2) da_nil))) (da_cons de_str (da_cons (de_neg de_int) da_nil)))))))))) (de_var 1)))))), ?_⟩
  rintro pl ds Q ⟨hp, ⟨⟩, rfl, -, q⟩
  walk_at "wq"
  refine draw_i hp (.of (by omega)) fun k pl k0 k1 hp => ?_
  walk_at "wq"
  refine number_i hp fun n pl h1 h2 hp => ?_
  walk_at "wq"
  obtain ⟨j, rfl⟩ : ∃ j : Nat, k = (j : Int) := ⟨k.toNat, by omega⟩
  obtain ⟨x, hx⟩ : ∃ x, ([D.int n, D.non, D.bl true, D.str ("cells" : Str), D.tup [D.int 0, D.int n], D.lst [D.int n], D.str ("" : Str), D.int (-1)] : List D)[j]? = some x := ⟨_, List.getElem?_eq_getElem (by show j < 8; omega)⟩
  refine i_ixL (atI_of hx) ⟨_, rfl, q _ _ ⟨x, rfl, ?_⟩ hp⟩
  have : ∀ x ∈ ([D.int n, D.non, D.bl true, D.str ("cells" : Str), D.tup [D.int 0, D.int n], D.lst [D.int n], D.str ("" : Str), D.int (-1)] : List D), ThingD x := by
    simp [ThingD, Dep]
  exact this x (List.mem_of_getElem? hx)
theorem ok_law (M : Blt mg) (hSeer : seerB K = true) (hTree : P.given.tree = none) (E_NoCells : Xc0 K mg "NoCells") (E_NoProcedure : Xc0 K mg "NoProcedure") (E_NoPath : Xc0 K mg "NoPath") (E_NoBoard : Xc0 K mg "NoBoard") (E_NoNumber : Xc0 K mg "NoNumber") (E_NoDeed : Xc0 K mg "NoDeed") (E_NoWidth : Xc0 K mg "NoWidth") (E_NoTable : Xc0 K mg "NoTable") (E_NoClass : Xc0 K mg "NoClass") (E_NoState : Xc0 K mg "NoState") (E_NoClasses : Xc0 K mg "NoClasses") (E_NoClaims : Xc0 K mg "NoClaims") (E_NoOrder : Xc0 K mg "NoOrder") (E_NoFault : Xc0 K mg "NoFault") (E_NoMany : Xc0 K mg "NoMany") (E_NoList : Xc0 K mg "NoList") (E_NoIndex : Xc0 K mg "NoIndex") (E_NoDeeds : Xc0 K mg "NoDeeds") (E_NotLet : Xc0 K mg "NotLet") (E_NoReplica : Xc0 K mg "NoReplica") (E_Held : Xc0 K mg "Held") (E_NoBook : Xc2 P w K mg base "NoBook" "procedure" "path") (E_NoRun : Xc1 P w K mg base "NoRun" "index") (E_NoHistory : Xc1 P w K mg base "NoHistory" "index") (E_NoVectors : Xc1 P w K mg base "NoVectors" "index") (E_NoEquations : Xc1 P w K mg base "NoEquations" "index") (E_NoEquation : Xc1 P w K mg base "NoEquation" "place") (E_NoSender : Xc1 P w K mg base "NoSender" "state") (E_TooMany : Xc1 P w K mg base "TooMany" "many") (E_NoText : Xc1 P w K mg base "NoText" "line") (E_BoardError : Xc0 K mg "BoardError") (KX : Kinds K [E_NoCells.C, E_NoProcedure.C, E_NoPath.C, E_NoBoard.C, E_NoNumber.C, E_NoDeed.C, E_NoWidth.C, E_NoTable.C, E_NoClass.C, E_NoState.C, E_NoClasses.C, E_NoClaims.C, E_NoOrder.C, E_NoFault.C, E_NoMany.C, E_NoList.C, E_NoIndex.C, E_NoDeeds.C, E_NotLet.C, E_NoReplica.C, E_Held.C, E_NoBook.C, E_NoRun.C, E_NoHistory.C, E_NoVectors.C, E_NoEquations.C, E_NoEquation.C, E_NoSender.C, E_TooMany.C, E_NoText.C, E_BoardError.C] [("ValueError", true), ("KeyError", false), ("IndexError", false), ("TypeError", false), ("ZeroDivisionError", false), ("AttributeError", false)]) (X_NoBook__procedure : Xh K E_NoBook.C "procedure") (X_NoBook__path : Xh K E_NoBook.C "path") (X_NoRun__index : Xh K E_NoRun.C "index") (X_NoHistory__index : Xh K E_NoHistory.C "index") (X_NoVectors__index : Xh K E_NoVectors.C "index") (X_NoEquations__index : Xh K E_NoEquations.C "index") (X_NoEquation__place : Xh K E_NoEquation.C "place") (X_NoSender__state : Xh K E_NoSender.C "state") (X_TooMany__many : Xh K E_TooMany.C "many") (X_NoText__line : Xh K E_NoText.C "line") (C_NoBook_BoardError : PySem.W.exmOne K (.ref E_NoBook.C) (.ref E_BoardError.C) = some true) (G_L_pool : Gf K mg "_law_pool" s_L_pool ["_law_script"]) (G_L_draw : Gf K mg "_law_draw" s_L_draw ["_law_pool_here", "_law_many"]) (G_L_number : Gf K mg "_law_number" s_L_number ["_law_pool_here"]) (G_L_same : Gf K mg "_law_same" s_L_same ["_law_actual", "_law_due"]) (G_L_kinds : Gf K mg "_law_kinds" s_L_kinds ["_law_thing_here"]) (G_L_made : Gf K mg "_law_made" s_L_made ["_law_first", "_law_second"]) (G_L_thing : Gf K mg "_law_thing" s_L_thing ["_law_pool_here"]) (G_L_foreign : Gf K mg "_law_foreign" s_L_foreign ["_law_thing_here"]) (G_law : Gf K mg "law" s_law ["_law_script"]) : FnOk P w K mg base CX0 30 G_law.f G_law.fd ["_law_script"] (spS K specLaw) := by
  have H_L_pool := ok_L_pool (P := P) (w := w) (base := base) M G_L_pool
  have H_L_same := ok_L_same (P := P) (w := w) (base := base) M G_L_same
  have H_L_kinds := ok_L_kinds (P := P) (w := w) (base := base) M hSeer hTree E_NoCells E_NoProcedure E_NoPath E_NoBoard E_NoNumber E_NoDeed E_NoWidth E_NoTable E_NoClass E_NoState E_NoClasses E_NoClaims E_NoOrder E_NoFault E_NoMany E_NoList E_NoIndex E_NoDeeds E_NotLet E_NoReplica E_Held E_NoBook E_NoRun E_NoHistory E_NoVectors E_NoEquations E_NoEquation E_NoSender E_TooMany E_NoText E_BoardError KX G_L_kinds
  have H_L_made := ok_L_made (P := P) (w := w) (base := base) M hSeer hTree E_NoCells E_NoProcedure E_NoPath E_NoBoard E_NoNumber E_NoDeed E_NoWidth E_NoTable E_NoClass E_NoState E_NoClasses E_NoClaims E_NoOrder E_NoFault E_NoMany E_NoList E_NoIndex E_NoDeeds E_NotLet E_NoReplica E_Held E_NoBook E_NoRun E_NoHistory E_NoVectors E_NoEquations E_NoEquation E_NoSender E_TooMany E_NoText E_BoardError G_L_made
  have H_L_thing := ok_L_thing (P := P) (w := w) (base := base) M hSeer hTree G_L_draw G_L_number G_L_thing
  have H_L_foreign := ok_L_foreign (P := P) (w := w) (base := base) M hSeer hTree E_NoCells E_NoProcedure E_NoPath E_NoBoard E_NoNumber E_NoDeed E_NoWidth E_NoTable E_NoClass E_NoState E_NoClasses E_NoClaims E_NoOrder E_NoFault E_NoMany E_NoList E_NoIndex E_NoDeeds E_NotLet E_NoReplica E_Held E_NoBook E_NoRun E_NoHistory E_NoVectors E_NoEquations E_NoEquation E_NoSender E_TooMany E_NoText E_BoardError KX G_L_foreign
  replace H_L_same := H_L_same 20
  refine fn_okS0 G_law.F sc_law rfl fun cdv A outer s0 H E hr => ⟨_, _, (dss0_initB 12 (dss0_cons (DS.d0 (ds_setO (i := 1) sc_law.nd (df_callScr K 0 H_L_pool (hr.mono (by decide)) G_L_pool.g G_L_pool.F.kp G_L_pool.b)))
      (dss0_cons (DS.d0 (ds_set (i := 2) sc_law.nd (de_callP K 1 H_L_thing (hr.mono (by decide)) G_L_thing.g G_L_thing.F.kp G_L_thing.b da_nil)))
      (dss0_cons (DS.d0 (ds_set (i := 3) sc_law.nd (de_callP K 1 H_L_thing (hr.mono (by decide)) G_L_thing.g G_L_thing.F.kp G_L_thing.b da_nil)))
      (dss0_cons (DS.d0 (ds_set (i := 4) sc_law.nd (de_callBx K 12 H_L_made (hr.mono (by decide)) G_L_made.g G_L_made.F.kp G_L_made.b (da_cons (de_var 2) (da_cons (de_var 3) da_nil)))))
      (dss0_cons (DS.d0 (ds_for PassesOwn.never rfl (di_range1 M.range (da_cons (de_callB cs_len call_len_seq M.len PySem.boot_len (da_cons (de_var 4) da_nil)) da_nil)) (dg_name (i := 5) sc_law.nd) (dss_cons (ds_if (DW.dt (dw_or (dt_not (dt_tr K (de_isE K 12 (de_ix K (de_var 4) (de_var 5)) (pe_glob (v := .ref E_BoardError.C) rfl E_BoardError.g rfl (by decide)) (.inl ⟨_, rfl⟩) M.isinstance))) (dw_or (dt_not (dt_tr K (de_isE K 12 (de_ix K (de_var 4) (de_var 5)) (pe_bltn (v := .ty "ValueError") rfl M.ValueError (by decide +kernel) rfl (by decide) (by decide)) (.inr ⟨_, rfl⟩) M.isinstance))) (dw_or1 (dt_tr K (de_callBx K 12 H_L_foreign (hr.mono (by decide)) G_L_foreign.g G_L_foreign.F.kp G_L_foreign.b (da_cons (de_ix K (de_var 4) (de_var 5)) da_nil))))))) (dss_one (ds_ret de_bl)) dss_nil)
      (dss_one (ds_if (dt_neD K hr (de_callBx K 12 H_L_kinds (hr.mono (by decide)) G_L_kinds.g G_L_kinds.F.kp G_L_kinds.b (da_cons (de_ix K (de_var 4) (de_var 5)) da_nil)) (DF.v (df_lc (own := [("_law_k", 11)]) rfl sc_law.nd (di_range1 M.range (da_cons (de_callB cs_len call_len_seq M.len PySem.boot_len (da_cons (de_var 4) da_nil)) da_nil)) (blkOk_by (by rfl)) (fun _ _ _ _ _ => (dg_name (i := 11) sc_law.nd)) (gin_name (by decide)) gmo_name (fun _ _ _ _ _ => dts_nil) (fun _ _ _ _ _ => (de_eq (de_var 11) (de_var 5)))))) (dss_one (ds_ret de_bl)) dss_nil)))))
      (dss0_cons (DS.d0 (ds_set (i := 6) sc_law.nd (de_newX0 12 E_BoardError)))
      (dss0_cons (DS.d0 (ds_if (DW.dt (dw_or (dt_not (dt_tr K (de_isE K 12 (de_var 6) (pe_bltn (v := .ty "ValueError") rfl M.ValueError (by decide +kernel) rfl (by decide) (by decide)) (.inr ⟨_, rfl⟩) M.isinstance))) (dw_or1 (dt_inL K de_bl (de_callBx K 12 H_L_kinds (hr.mono (by decide)) G_L_kinds.g G_L_kinds.F.kp G_L_kinds.b (da_cons (de_var 6) da_nil)))))) (dss_one (ds_ret de_bl)) dss_nil))
      (dss0_cons (DS.d0 (ds_set (i := 7) sc_law.nd (de_newX2 12 E_NoBook (hr.mono (by decide)) (da_cons (de_var 2) (da_cons (de_var 3) da_nil)))))
      (dss0_cons (DS.d0 (ds_if (dt_not (dt_tr K (de_call K H_L_same (hr.mono (by decide)) G_L_same.g G_L_same.F.kp G_L_same.b (da_cons (DF.v (df_lst (da_cons (de_xv K 12 (de_var 7)) (da_cons (de_xv K 12 (de_var 7)) da_nil)))) (da_cons (DF.v (df_lst (da_cons (de_var 2) (da_cons (de_var 3) da_nil)))) da_nil))))) (dss_one (ds_ret de_bl)) dss_nil))
      (dss0_cons (DS.d0 (ds_set (i := 8) sc_law.nd (DF.v (df_lst (da_cons (de_xv K 12 (de_newX1 12 E_NoRun (hr.mono (by decide)) (de_var 2))) (da_cons (de_xv K 12 (de_newX1 12 E_NoHistory (hr.mono (by decide)) (de_var 2))) (da_cons (de_xv K 12 (de_newX1 12 E_NoVectors (hr.mono (by decide)) (de_var 2))) (da_cons (de_xv K 12 (de_newX1 12 E_NoEquations (hr.mono (by decide)) (de_var 2))) da_nil))))))))
      (dss0_cons (DS.d0 (ds_set (i := 8) sc_law.nd (DF.v (df_cat (de_var 8) (DF.v (df_lst (da_cons (de_xv K 12 (de_newX1 12 E_NoEquation (hr.mono (by decide)) (de_var 2))) (da_cons (de_xv K 12 (de_newX1 12 E_NoSender (hr.mono (by decide)) (de_var 2))) (da_cons (de_xv K 12 (de_newX1 12 E_TooMany (hr.mono (by decide)) (de_var 2))) (da_cons (de_xv K 12 (de_newX1 12 E_NoText (hr.mono (by decide)) (de_var 2))) da_nil))))))))))
      (dss0_cons (DS.d0 (ds_if (dt_not (dt_tr K (de_call K H_L_same (hr.mono (by decide)) G_L_same.g G_L_same.F.kp G_L_same.b (da_cons (de_var 8) (da_cons (DF.v (df_lst (da_cons (de_var 2) (da_cons (de_var 2) (da_cons (de_var 2) (da_cons (de_var 2) (da_cons (de_var 2) (da_cons (de_var 2) (da_cons (de_var 2) (da_cons (de_var 2) da_nil)))))))))) da_nil))))) (dss_one (ds_ret de_bl)) dss_nil))
      (dss0_cons (DS.d0 (ds_set (i := 9) sc_law.nd de_non))
      (dss0_cons (ds_tryOne (i := 10) (j := 9) X_NoBook__procedure.T X_NoBook__procedure.no C_NoBook_BoardError takes0 E_BoardError.g (fun W dX' pn xe tkb => by exact (dss_one (ds_raise2T E_NoBook (by decide) tkb (hr.mono (by decide)) (da_cons (de_var 3) (da_cons (de_var 2) da_nil))))) sc_law.nd)
      (DSs.d0 (dss_one (ds_ret (de_call K H_L_same (hr.mono (by decide)) G_L_same.g G_L_same.F.kp G_L_same.b (da_cons (de_var 9) (da_cons (de_var 3) da_nil))))))))))))))))))))), ?_⟩
  rintro ns Q ⟨h63, q⟩
  have hsl := sizeLine_eq
  have hl : [E_NoCells.C, E_NoProcedure.C, E_NoPath.C, E_NoBoard.C, E_NoNumber.C, E_NoDeed.C, E_NoWidth.C, E_NoTable.C, E_NoClass.C, E_NoState.C, E_NoClasses.C, E_NoClaims.C, E_NoOrder.C, E_NoFault.C, E_NoMany.C, E_NoList.C, E_NoIndex.C, E_NoDeeds.C, E_NotLet.C, E_NoReplica.C, E_Held.C, E_NoBook.C, E_NoRun.C, E_NoHistory.C, E_NoVectors.C, E_NoEquations.C, E_NoEquation.C, E_NoSender.C, E_TooMany.C, E_NoText.C, E_BoardError.C].length = 31 := rfl
  have hB : ([E_NoCells.C, E_NoProcedure.C, E_NoPath.C, E_NoBoard.C, E_NoNumber.C, E_NoDeed.C, E_NoWidth.C, E_NoTable.C, E_NoClass.C, E_NoState.C, E_NoClasses.C, E_NoClaims.C, E_NoOrder.C, E_NoFault.C, E_NoMany.C, E_NoList.C, E_NoIndex.C, E_NoDeeds.C, E_NotLet.C, E_NoReplica.C, E_Held.C, E_NoBook.C, E_NoRun.C, E_NoHistory.C, E_NoVectors.C, E_NoEquations.C, E_NoEquation.C, E_NoSender.C, E_TooMany.C, E_NoText.C, E_BoardError.C] : List Addr).getD 30 0 = E_BoardError.C := rfl
  have hK : ([E_NoCells.C, E_NoProcedure.C, E_NoPath.C, E_NoBoard.C, E_NoNumber.C, E_NoDeed.C, E_NoWidth.C, E_NoTable.C, E_NoClass.C, E_NoState.C, E_NoClasses.C, E_NoClaims.C, E_NoOrder.C, E_NoFault.C, E_NoMany.C, E_NoList.C, E_NoIndex.C, E_NoDeeds.C, E_NotLet.C, E_NoReplica.C, E_Held.C, E_NoBook.C, E_NoRun.C, E_NoHistory.C, E_NoVectors.C, E_NoEquations.C, E_NoEquation.C, E_NoSender.C, E_TooMany.C, E_NoText.C, E_BoardError.C] : List Addr).getD 21 0 = E_NoBook.C := rfl
  have KX1 := KX
  generalize [E_NoCells.C, E_NoProcedure.C, E_NoPath.C, E_NoBoard.C, E_NoNumber.C, E_NoDeed.C, E_NoWidth.C, E_NoTable.C, E_NoClass.C, E_NoState.C, E_NoClasses.C, E_NoClaims.C, E_NoOrder.C, E_NoFault.C, E_NoMany.C, E_NoList.C, E_NoIndex.C, E_NoDeeds.C, E_NotLet.C, E_NoReplica.C, E_Held.C, E_NoBook.C, E_NoRun.C, E_NoHistory.C, E_NoVectors.C, E_NoEquations.C, E_NoEquation.C, E_NoSender.C, E_TooMany.C, E_NoText.C, E_BoardError.C] = Cs at KX1 hl hB hK ⊢
  refine i_initB ?_
  show dSeq _ _ _ ([.scr ns, .any, .any, .any, .any, .any, .any, .any, .any, .any, .any, .any, .hp false (fun _ => none)] : List Sl)
  walk_at "wb"
  refine ⟨h63, fun pl hp => ?_⟩
  walk_at "wb"
  refine ⟨hp, (), rfl, trivial, fun r pl ⟨x, e, tx⟩ hp => ?_⟩
  subst e
  walk_at "wb"
  refine ⟨hp, (), rfl, trivial, fun r pl ⟨y, e, ty⟩ hp => ?_⟩
  subst e
  walk_at "wb"
  refine ⟨(x, y), rfl, trivial, fun v L ⟨as, hn, ev, mk⟩ => ?_⟩
  subst ev
  walk_at "wb"
  refine ⟨fun i γ => ∃ s5, γ = [.scr ns, .own false pl, .val x, .val y, .val (.lst (as.map .ref)), s5, .any, .any, .any, .any, .any, .any, .hp false L], ⟨_, rfl⟩, ?_, ?_⟩
  · rintro i d γ hd ⟨s5, rfl⟩
    obtain ⟨rfl, hi⟩ := rng0_inv hd
    have hi : i < 30 := by rw [List.length_map] at hi; omega
    obtain ⟨dd, he⟩ := mk i (by omega)
    have hx : (as.map D.ref)[i]? = some (.ref (as.getD i 0)) := by
      rw [List.getElem?_map, List.getD_eq_getElem?_getD, List.getElem?_eq_getElem (by omega)]
      rfl
    have eA : Cs.length = 31 ∧ ErrAt Cs L (as.getD i 0) i := ⟨hl, by omega, _, he⟩
    have xC := KX1.xis i (by omega)
    have kB : PySem.W.kitOne K (.ref (Cs.getD i 0)) (.ref E_BoardError.C) = some true := by
      have := KX1.own i 30 (by omega) (by omega)
      rw [hB, hl] at this
      rw [this]
      simp
    have kV := KX1.typ i (by omega) ("ValueError", true) (by simp)
    walk_at "wb"
    refine i_ixL (atI_of hx) ⟨_, _, _, _, _, _, rfl, rfl, he, xC, kB, ?_⟩
    walk_at "wb"
    refine i_ixL (atI_of hx) ⟨_, _, _, _, _, _, rfl, rfl, he, xC, kV, ?_⟩
    walk_at "wb"
    refine i_ixL (atI_of hx) ?_
    walk_at "wb"
    refine ⟨⟨_, i⟩, rfl, eA, fun v L' ⟨e1, e2⟩ => ?_⟩
    subst e1 e2
    walk_at "wb"
    refine i_ixL (atI_of hx) ?_
    walk_at "wb"
    refine ⟨⟨_, i⟩, rfl, eA, fun v L' ⟨e1, e2⟩ => ?_⟩
    subst e1 e2
    walk_at "wb"
    simp only [List.set_cons_succ, List.set_cons_zero]
    refine i_mapN (n := 30) (fun t => .int (t : Int)) (fun t => .bl (decide (i = t))) (by rw [List.length_map, hn]; exact dLs_rng 30) (by decide) rfl (fun t ht R hR => ?_) ?_
    · walk_at "wb"
      rw [show decide ((t : Int) = (i : Int)) = decide (i = t) from decide_eq_decide.mpr ⟨fun z => by omega, fun z => by omega⟩]
      exact hR _ rfl
    refine i_neSelfK pl_bls ?_
    walk_at "wb"
    exact ⟨_, rfl⟩
  · rintro γ ⟨s5, rfl⟩
    walk_at "wb"
    intro p hp0
    obtain ⟨L1, hL1⟩ : ∃ L1, L1 = updB L p (.exc p E_BoardError.C none) := ⟨_, rfl⟩
    rw [← hL1]
    have e30 : excAt L1 p (Cs.getD 30 0) none := by rw [hL1, hB]; exact ⟨updB_same, .inl rfl⟩
    clear hL1
    have eA : Cs.length = 31 ∧ ErrAt Cs L1 p 30 := ⟨hl, by omega, _, e30⟩
    have xC := KX1.xis 30 (by omega)
    have kV := KX1.typ 30 (by omega) ("ValueError", true) (by simp)
    simp only [List.set_cons_succ, List.set_cons_zero]
    walk_at "wb"
    refine ⟨_, _, _, _, _, _, rfl, rfl, e30, xC, kV, ?_⟩
    walk_at "wb"
    refine ⟨⟨_, 30⟩, rfl, eA, fun v L' ⟨e1, e2⟩ => ?_⟩
    subst e1 e2
    walk_at "wb"
    refine ⟨_, _, List.replicate 30 (V.bl false), .inl rfl, rfl, rfl, ?_⟩
    rw [show inV (V.bl true) (List.replicate 30 (V.bl false)) = false from rfl]
    walk_at "wb"
    refine ⟨_, _, rfl, _, _, rfl, ?_⟩
    intro p1 d1 h1 i1 j1
    obtain ⟨L2, g2, a2, b2⟩ := newX (L := L') (C := E_NoBook.C) (fs := [("path", y), ("procedure", x)]) j1
    rw [← g2]
    simp only [List.set_cons_succ, List.set_cons_zero]
    walk_at "wb"
    refine ⟨_, _, _, _, _, _, _, rfl, rfl, a2, b2, ⟨X_NoBook__procedure.T, X_NoBook__procedure.no⟩, rfl, ?_⟩
    walk_at "wb"
    refine ⟨_, _, _, _, _, _, _, rfl, rfl, a2, b2, ⟨X_NoBook__path.T, X_NoBook__path.no⟩, rfl, ?_⟩
    walk_at "wb"
    refine ⟨_, rfl, ⟨by show 2 ≤ 100000; decide, fun d hd => ?_⟩, fun r e => ?_⟩
    · rcases List.mem_cons.mp hd with e | hd
      · subst e; exact tx
      · rw [List.mem_singleton.mp hd]; exact ty
    subst e
    walk_at "wb"
    intro p3 d3 h3 i3 j3
    obtain ⟨L3, g3, a3, b3⟩ := newX (L := L2) (C := E_NoRun.C) (fs := [("index", x)]) j3
    rw [← g3]
    simp only [List.set_cons_succ, List.set_cons_zero]
    walk_at "wb"
    refine ⟨_, _, _, _, _, _, _, rfl, rfl, a3, b3, ⟨X_NoRun__index.T, X_NoRun__index.no⟩, rfl, ?_⟩
    walk_at "wb"
    intro p4 d4 h4 i4 j4
    obtain ⟨L4, g4, a4, b4⟩ := newX (L := L3) (C := E_NoHistory.C) (fs := [("index", x)]) j4
    rw [← g4]
    simp only [List.set_cons_succ, List.set_cons_zero]
    walk_at "wb"
    refine ⟨_, _, _, _, _, _, _, rfl, rfl, a4, b4, ⟨X_NoHistory__index.T, X_NoHistory__index.no⟩, rfl, ?_⟩
    walk_at "wb"
    intro p5 d5 h5 i5 j5
    obtain ⟨L5, g5, a5, b5⟩ := newX (L := L4) (C := E_NoVectors.C) (fs := [("index", x)]) j5
    rw [← g5]
    simp only [List.set_cons_succ, List.set_cons_zero]
    walk_at "wb"
    refine ⟨_, _, _, _, _, _, _, rfl, rfl, a5, b5, ⟨X_NoVectors__index.T, X_NoVectors__index.no⟩, rfl, ?_⟩
    walk_at "wb"
    intro p6 d6 h6 i6 j6
    obtain ⟨L6, g6, a6, b6⟩ := newX (L := L5) (C := E_NoEquations.C) (fs := [("index", x)]) j6
    rw [← g6]
    simp only [List.set_cons_succ, List.set_cons_zero]
    walk_at "wb"
    refine ⟨_, _, _, _, _, _, _, rfl, rfl, a6, b6, ⟨X_NoEquations__index.T, X_NoEquations__index.no⟩, rfl, ?_⟩
    walk_at "wb"
    intro p7 d7 h7 i7 j7
    obtain ⟨L7, g7, a7, b7⟩ := newX (L := L6) (C := E_NoEquation.C) (fs := [("place", x)]) j7
    rw [← g7]
    simp only [List.set_cons_succ, List.set_cons_zero]
    walk_at "wb"
    refine ⟨_, _, _, _, _, _, _, rfl, rfl, a7, b7, ⟨X_NoEquation__place.T, X_NoEquation__place.no⟩, rfl, ?_⟩
    walk_at "wb"
    intro p8 d8 h8 i8 j8
    obtain ⟨L8, g8, a8, b8⟩ := newX (L := L7) (C := E_NoSender.C) (fs := [("state", x)]) j8
    rw [← g8]
    simp only [List.set_cons_succ, List.set_cons_zero]
    walk_at "wb"
    refine ⟨_, _, _, _, _, _, _, rfl, rfl, a8, b8, ⟨X_NoSender__state.T, X_NoSender__state.no⟩, rfl, ?_⟩
    walk_at "wb"
    intro p9 d9 h9 i9 j9
    obtain ⟨L9, g9, a9, b9⟩ := newX (L := L8) (C := E_TooMany.C) (fs := [("many", x)]) j9
    rw [← g9]
    simp only [List.set_cons_succ, List.set_cons_zero]
    walk_at "wb"
    refine ⟨_, _, _, _, _, _, _, rfl, rfl, a9, b9, ⟨X_TooMany__many.T, X_TooMany__many.no⟩, rfl, ?_⟩
    walk_at "wb"
    intro p10 d10 h10 i10 j10
    obtain ⟨L10, g10, a10, b10⟩ := newX (L := L9) (C := E_NoText.C) (fs := [("line", x)]) j10
    rw [← g10]
    simp only [List.set_cons_succ, List.set_cons_zero]
    walk_at "wb"
    refine ⟨_, _, _, _, _, _, _, rfl, rfl, a10, b10, ⟨X_NoText__line.T, X_NoText__line.no⟩, rfl, ?_⟩
    walk_at "wb"
    refine ⟨_, rfl, ⟨by show 8 ≤ 100000; decide, fun d hd => ?_⟩, fun r e => ?_⟩
    · have : d = x := by simpa using hd
      subst this
      exact tx
    subst e
    walk_at "wb"
    refine ⟨_, _, rfl, .inl ⟨rfl, _, rfl, fun a => ⟨rfl, ?_⟩⟩⟩
    simp only [List.set_cons_succ, List.set_cons_zero]
    walk_at "wb"
    refine ⟨_, rfl, by exact Dep.mono ty, fun r e => ?_⟩
    subst e
    walk_at "wb"
end

def dt_NoBook_init : He.DefD := ⟨("NoBook", some "__init__"), "__init__", "NoBook.__init__", defArgs (methS 3 0), defBody (methS 3 0), defScope (methS 3 0), [], []⟩
def dt_NoRun_init : He.DefD := ⟨("NoRun", some "__init__"), "__init__", "NoRun.__init__", defArgs (methS 6 0), defBody (methS 6 0), defScope (methS 6 0), [], []⟩
def dt_NoHistory_init : He.DefD := ⟨("NoHistory", some "__init__"), "__init__", "NoHistory.__init__", defArgs (methS 10 0), defBody (methS 10 0), defScope (methS 10 0), [], []⟩
def dt_NoVectors_init : He.DefD := ⟨("NoVectors", some "__init__"), "__init__", "NoVectors.__init__", defArgs (methS 12 0), defBody (methS 12 0), defScope (methS 12 0), [], []⟩
def dt_NoEquation_init : He.DefD := ⟨("NoEquation", some "__init__"), "__init__", "NoEquation.__init__", defArgs (methS 15 0), defBody (methS 15 0), defScope (methS 15 0), [], []⟩
def dt_NoEquations_init : He.DefD := ⟨("NoEquations", some "__init__"), "__init__", "NoEquations.__init__", defArgs (methS 16 0), defBody (methS 16 0), defScope (methS 16 0), [], []⟩
def dt_NoSender_init : He.DefD := ⟨("NoSender", some "__init__"), "__init__", "NoSender.__init__", defArgs (methS 17 0), defBody (methS 17 0), defScope (methS 17 0), [], []⟩
def dt_TooMany_init : He.DefD := ⟨("TooMany", some "__init__"), "__init__", "TooMany.__init__", defArgs (methS 30 0), defBody (methS 30 0), defScope (methS 30 0), [], []⟩
def dt_NoText_init : He.DefD := ⟨("NoText", some "__init__"), "__init__", "NoText.__init__", defArgs (methS 31 0), defBody (methS 31 0), defScope (methS 31 0), [], []⟩
def dt_L_pool : He.DefD := ⟨("_law_pool", none), "_law_pool", "_law_pool", defArgs (topS 33), defBody (topS 33), defScope (topS 33), [], []⟩
def dt_L_draw : He.DefD := ⟨("_law_draw", none), "_law_draw", "_law_draw", defArgs (topS 34), defBody (topS 34), defScope (topS 34), [], []⟩
def dt_L_number : He.DefD := ⟨("_law_number", none), "_law_number", "_law_number", defArgs (topS 35), defBody (topS 35), defScope (topS 35), [], []⟩
def dt_L_same : He.DefD := ⟨("_law_same", none), "_law_same", "_law_same", defArgs (topS 36), defBody (topS 36), defScope (topS 36), [], []⟩
def dt_L_kinds : He.DefD := ⟨("_law_kinds", none), "_law_kinds", "_law_kinds", defArgs (topS 37), defBody (topS 37), defScope (topS 37), [], []⟩
def dt_L_made : He.DefD := ⟨("_law_made", none), "_law_made", "_law_made", defArgs (topS 38), defBody (topS 38), defScope (topS 38), [], []⟩
def dt_L_thing : He.DefD := ⟨("_law_thing", none), "_law_thing", "_law_thing", defArgs (topS 39), defBody (topS 39), defScope (topS 39), [], []⟩
def dt_L_foreign : He.DefD := ⟨("_law_foreign", none), "_law_foreign", "_law_foreign", defArgs (topS 40), defBody (topS 40), defScope (topS 40), [], []⟩
def dt_law : He.DefD := ⟨("law", none), "law", "law", defArgs (topS 41), defBody (topS 41), defScope (topS 41), [], []⟩
def fnT : List He.DefD := [dt_NoBook_init, dt_NoRun_init, dt_NoHistory_init, dt_NoVectors_init, dt_NoEquation_init, dt_NoEquations_init, dt_NoSender_init, dt_TooMany_init, dt_NoText_init, dt_L_pool, dt_L_draw, dt_L_number, dt_L_same, dt_L_kinds, dt_L_made, dt_L_thing, dt_L_foreign, dt_law]
def faT : List He.Fa := [.meth "NoBook" "__init__", .meth "NoRun" "__init__", .meth "NoHistory" "__init__", .meth "NoVectors" "__init__", .meth "NoEquation" "__init__", .meth "NoEquations" "__init__", .meth "NoSender" "__init__", .meth "TooMany" "__init__", .meth "NoText" "__init__", .glo "_law_pool", .glo "_law_draw", .glo "_law_number", .glo "_law_same", .glo "_law_kinds", .glo "_law_made", .glo "_law_thing", .glo "_law_foreign", .glo "law", .free "range", .free "enumerate", .free "zip", .free "sum", .free "len", .free "int", .free "list", .free "isinstance", .free "bool", .free "str", .free "tuple", .free "abs", .free "all", .free "any", .free "sorted", .free "reversed", .free "min", .free "max", .free "ValueError", .free "KeyError", .free "IndexError", .free "TypeError", .free "ZeroDivisionError", .free "AttributeError", .glo "NoCells", .glo "NoProcedure", .glo "NoPath", .glo "NoBoard", .glo "NoNumber", .glo "NoDeed", .glo "NoWidth", .glo "NoTable", .glo "NoClass", .glo "NoState", .glo "NoClasses", .glo "NoClaims", .glo "NoOrder", .glo "NoFault", .glo "NoMany", .glo "NoList", .glo "NoIndex", .glo "NoDeeds", .glo "NotLet", .glo "NoReplica", .glo "Held", .glo "NoBook", .glo "NoRun", .glo "NoHistory", .glo "NoVectors", .glo "NoEquations", .glo "NoEquation", .glo "NoSender", .glo "TooMany", .glo "NoText", .glo "BoardError"]
def exT : List (PySem.W.Frag → Bool) := [seerB, exc0B "NoCells", exc0B "NoProcedure", exc0B "NoPath", exc0B "NoBoard", exc0B "NoNumber", exc0B "NoDeed", exc0B "NoWidth", exc0B "NoTable", exc0B "NoClass", exc0B "NoState", exc0B "NoClasses", exc0B "NoClaims", exc0B "NoOrder", exc0B "NoFault", exc0B "NoMany", exc0B "NoList", exc0B "NoIndex", exc0B "NoDeeds", exc0B "NotLet", exc0B "NoReplica", exc0B "Held", oexB "NoBook", xhB "NoBook" "procedure", xhB "NoBook" "path", oexB "NoRun", xhB "NoRun" "index", oexB "NoHistory", xhB "NoHistory" "index", oexB "NoVectors", xhB "NoVectors" "index", oexB "NoEquations", xhB "NoEquations" "index", oexB "NoEquation", xhB "NoEquation" "place", oexB "NoSender", xhB "NoSender" "state", oexB "TooMany", xhB "TooMany" "many", oexB "NoText", xhB "NoText" "line", exc0B "BoardError", exmT "NoBook" "BoardError", xhB "NoEquation" "place", xhB "NoEquations" "index", xhB "NoHistory" "index", xhB "NoRun" "index", xhB "NoSender" "state", xhB "NoText" "line", xhB "NoVectors" "index", xhB "TooMany" "many", kindsB ["NoCells", "NoProcedure", "NoPath", "NoBoard", "NoNumber", "NoDeed", "NoWidth", "NoTable", "NoClass", "NoState", "NoClasses", "NoClaims", "NoOrder", "NoFault", "NoMany", "NoList", "NoIndex", "NoDeeds", "NotLet", "NoReplica", "Held", "NoBook", "NoRun", "NoHistory", "NoVectors", "NoEquations", "NoEquation", "NoSender", "TooMany", "NoText", "BoardError"] [("ValueError", true), ("KeyError", false), ("IndexError", false), ("TypeError", false), ("ZeroDivisionError", false), ("AttributeError", false)]]
abbrev RT : PySem.W.OpenRow := PySem.W.OpenLaw.row PySem.Challenge.rw_sharedboard_k00_errors
def tsT : List He.Tab := []
abbrev hkT : PySem.W.Hook := hookET 4 faT fnT exT tsT
def obT (s : PySem.W.SharedT) : He.AlT := obsETG 4 faT fnT exT tsT (HandSHeadRun.getT s)
def looseT : List Str := (["BoardError", "NoCells", "NoBook", "NoProcedure", "NoPath", "NoRun", "NoBoard", "NoNumber", "NoDeed", "NoHistory", "NoWidth", "NoVectors", "NoTable", "NoClass", "NoEquation", "NoEquations", "NoSender", "NoState", "NoClasses", "NoClaims", "NoOrder", "NoFault", "NoMany", "NoList", "NoIndex", "NoDeeds", "NotLet", "NoReplica", "Held", "TooMany"] : List Str) ++ (["NoText", "_law_pool", "_law_draw", "_law_number", "_law_same", "_law_kinds", "_law_made", "_law_thing", "_law_foreign"] : List Str)
def asA : List Addr := ([3, 6, 4, 24, 37, 56, 68, 80, 99, 111, 123, 135, 154, 166, 185, 197, 209, 228, 247, 266, 278, 290, 302, 314, 326, 338, 350, 362, 374, 386, 398, 410, 429, 448, 457, 464, 471, 476, 483, 490, 497, 504, 509, 0, 23, 36, 55, 67, 79, 98, 110, 122, 134, 153, 165, 184, 196, 208, 227, 246] : List Addr) ++ ([265, 277, 289, 301, 313, 325, 337, 349, 361, 373, 385, 397, 409, 428, 447, 456, 463, 470, 475, 482, 489, 496, 503, 508, 22, 25, 35, 53, 54, 66, 78, 96, 97, 109, 121, 133, 151, 152, 164, 182, 183, 195, 207, 225, 226, 244, 245, 263, 264, 276, 288, 300, 312, 324, 336, 348, 360, 372, 384, 396] : List Addr) ++ ([408, 426, 427, 445, 446, 451, 452, 453, 454, 455, 458, 459, 460, 461, 462, 465, 466, 467, 468, 469, 472, 473, 474, 477, 478, 479, 480, 481, 484, 485, 486, 487, 488, 491, 492, 493, 494, 495, 498, 499, 500, 501, 502, 505, 506, 507, 52, 95, 150, 181, 224, 243, 262, 425, 444, 47, 48, 49, 50, 51] : List Addr) ++ ([90, 91, 92, 93, 94, 145, 146, 147, 148, 149, 176, 177, 178, 179, 180, 219, 220, 221, 222, 223, 238, 239, 240, 241, 242, 257, 258, 259, 260, 261, 420, 421, 422, 423, 424, 439, 440, 441, 442, 443, 2, 1] : List Addr)
def obB (s : PySem.W.SharedT) : He.AlT := obsET faT fnT exT tsT (He.frG (HandSHeadRun.getT s) asA)
/-- the hook that looks at written addresses -/
def hkB : PySem.W.Hook where
  α := He.AlT
  obs := fun s => obsET faT fnT exT tsT (He.frG s.heap.get? asA)
  val := hkT.val
  says := hkT.says
  of := fun w s e => ⟨_, He.frG_in, e⟩
  keeps := hkT.keeps
theorem obB_eq (s : PySem.W.SharedT) : obB s = hkB.obs s.abs := by
  unfold obB
  rw [show HandSHeadRun.getT s = s.abs.heap.get? from funext fun a => HandSHeadRun.getT_eq s a]
  rfl

theorem runT (w : World) : HandSHeadRun.RunEq RT (PySem.W.view RT.prog [41]) hkB obB 9000 looseT w := by
  intro os
  kernel_rfl
theorem bd_law {K : PySem.W.Frag} {f : Addr} {fd : FuncData} (F : FunD K "law" "law" (defArgs s_law) (defBody s_law) (defScope s_law) [] [] f fd) (s : Shared) (us : List Value) (hl : us.length = (["_law_script"] : List Str).length) : BindsTo s fd ⟨us, []⟩ ((["_law_script"] : List Str).zip us) := FunD.bindsA (ps := ["_law_script"]) F (fun _ _ _ _ _ _ us hl => match us, hl with | [_], _ => rfl) s us hl
theorem factsT {P : Program} {w : World} {K : PySem.W.Frag} {h : Heap} {mg : Str → Option Value} {f : Addr} (hTree : P.given.tree = none) (X : K.In h) (G : h.Ns mainGlobals mg) (hfa : mg ("law" : Str) = some (.ref f)) (cet : SaysET faT fnT exT tsT w K) :
    ∃ fd : FuncData, (∀ (s : Shared) (v : Value), BindsTo s fd ⟨[v], []⟩ [("_law_script", v)]) ∧ ∀ base : Heap, K.In base → base.Ns mainGlobals mg → FnOk P w K mg base CX0 30 f fd ["_law_script"] (spS K specLaw) := by
  have ce := cet.e
  have c := ce.d
  have hSeer : seerB K = true := ce.ex 0 (e := seerB) rfl
  obtain ⟨d_NoBook_init, F_NoBook_init⟩ := c.def_ 0 (d := dt_NoBook_init) rfl
  let G_NoBook_init : Gm K (He.ga K "NoBook") "__init__" "NoBook.__init__" s_NoBook_init ["self", "procedure", "path"] := ⟨_, d_NoBook_init, fun_of F_NoBook_init, He.meth_ok (c.fact 0 (f := .meth "NoBook" "__init__") rfl), FunD.bindsN (ps := ["self", "procedure", "path"]) F_NoBook_init fun _ _ _ _ _ _ us hl => match us, hl with | [_, _, _], _ => rfl⟩
  obtain ⟨d_NoRun_init, F_NoRun_init⟩ := c.def_ 1 (d := dt_NoRun_init) rfl
  let G_NoRun_init : Gm K (He.ga K "NoRun") "__init__" "NoRun.__init__" s_NoRun_init ["self", "index"] := ⟨_, d_NoRun_init, fun_of F_NoRun_init, He.meth_ok (c.fact 1 (f := .meth "NoRun" "__init__") rfl), FunD.bindsN (ps := ["self", "index"]) F_NoRun_init fun _ _ _ _ _ _ us hl => match us, hl with | [_, _], _ => rfl⟩
  obtain ⟨d_NoHistory_init, F_NoHistory_init⟩ := c.def_ 2 (d := dt_NoHistory_init) rfl
  let G_NoHistory_init : Gm K (He.ga K "NoHistory") "__init__" "NoHistory.__init__" s_NoHistory_init ["self", "index"] := ⟨_, d_NoHistory_init, fun_of F_NoHistory_init, He.meth_ok (c.fact 2 (f := .meth "NoHistory" "__init__") rfl), FunD.bindsN (ps := ["self", "index"]) F_NoHistory_init fun _ _ _ _ _ _ us hl => match us, hl with | [_, _], _ => rfl⟩
  obtain ⟨d_NoVectors_init, F_NoVectors_init⟩ := c.def_ 3 (d := dt_NoVectors_init) rfl
  let G_NoVectors_init : Gm K (He.ga K "NoVectors") "__init__" "NoVectors.__init__" s_NoVectors_init ["self", "index"] := ⟨_, d_NoVectors_init, fun_of F_NoVectors_init, He.meth_ok (c.fact 3 (f := .meth "NoVectors" "__init__") rfl), FunD.bindsN (ps := ["self", "index"]) F_NoVectors_init fun _ _ _ _ _ _ us hl => match us, hl with | [_, _], _ => rfl⟩
  obtain ⟨d_NoEquation_init, F_NoEquation_init⟩ := c.def_ 4 (d := dt_NoEquation_init) rfl
  let G_NoEquation_init : Gm K (He.ga K "NoEquation") "__init__" "NoEquation.__init__" s_NoEquation_init ["self", "place"] := ⟨_, d_NoEquation_init, fun_of F_NoEquation_init, He.meth_ok (c.fact 4 (f := .meth "NoEquation" "__init__") rfl), FunD.bindsN (ps := ["self", "place"]) F_NoEquation_init fun _ _ _ _ _ _ us hl => match us, hl with | [_, _], _ => rfl⟩
  obtain ⟨d_NoEquations_init, F_NoEquations_init⟩ := c.def_ 5 (d := dt_NoEquations_init) rfl
  let G_NoEquations_init : Gm K (He.ga K "NoEquations") "__init__" "NoEquations.__init__" s_NoEquations_init ["self", "index"] := ⟨_, d_NoEquations_init, fun_of F_NoEquations_init, He.meth_ok (c.fact 5 (f := .meth "NoEquations" "__init__") rfl), FunD.bindsN (ps := ["self", "index"]) F_NoEquations_init fun _ _ _ _ _ _ us hl => match us, hl with | [_, _], _ => rfl⟩
  obtain ⟨d_NoSender_init, F_NoSender_init⟩ := c.def_ 6 (d := dt_NoSender_init) rfl
  let G_NoSender_init : Gm K (He.ga K "NoSender") "__init__" "NoSender.__init__" s_NoSender_init ["self", "state"] := ⟨_, d_NoSender_init, fun_of F_NoSender_init, He.meth_ok (c.fact 6 (f := .meth "NoSender" "__init__") rfl), FunD.bindsN (ps := ["self", "state"]) F_NoSender_init fun _ _ _ _ _ _ us hl => match us, hl with | [_, _], _ => rfl⟩
  obtain ⟨d_TooMany_init, F_TooMany_init⟩ := c.def_ 7 (d := dt_TooMany_init) rfl
  let G_TooMany_init : Gm K (He.ga K "TooMany") "__init__" "TooMany.__init__" s_TooMany_init ["self", "many"] := ⟨_, d_TooMany_init, fun_of F_TooMany_init, He.meth_ok (c.fact 7 (f := .meth "TooMany" "__init__") rfl), FunD.bindsN (ps := ["self", "many"]) F_TooMany_init fun _ _ _ _ _ _ us hl => match us, hl with | [_, _], _ => rfl⟩
  obtain ⟨d_NoText_init, F_NoText_init⟩ := c.def_ 8 (d := dt_NoText_init) rfl
  let G_NoText_init : Gm K (He.ga K "NoText") "__init__" "NoText.__init__" s_NoText_init ["self", "line"] := ⟨_, d_NoText_init, fun_of F_NoText_init, He.meth_ok (c.fact 8 (f := .meth "NoText" "__init__") rfl), FunD.bindsN (ps := ["self", "line"]) F_NoText_init fun _ _ _ _ _ _ us hl => match us, hl with | [_, _], _ => rfl⟩
  obtain ⟨d_L_pool, F_L_pool⟩ := c.def_ 9 (d := dt_L_pool) rfl
  let G_L_pool : Gf K mg "_law_pool" s_L_pool ["_law_script"] := ⟨_, d_L_pool, fun_of F_L_pool, He.glo_ok X G (c.fact 9 (f := .glo "_law_pool") rfl), FunD.bindsN (ps := ["_law_script"]) F_L_pool fun _ _ _ _ _ _ us hl => match us, hl with | [_], _ => rfl⟩
  obtain ⟨d_L_draw, F_L_draw⟩ := c.def_ 10 (d := dt_L_draw) rfl
  let G_L_draw : Gf K mg "_law_draw" s_L_draw ["_law_pool_here", "_law_many"] := ⟨_, d_L_draw, fun_of F_L_draw, He.glo_ok X G (c.fact 10 (f := .glo "_law_draw") rfl), FunD.bindsN (ps := ["_law_pool_here", "_law_many"]) F_L_draw fun _ _ _ _ _ _ us hl => match us, hl with | [_, _], _ => rfl⟩
  obtain ⟨d_L_number, F_L_number⟩ := c.def_ 11 (d := dt_L_number) rfl
  let G_L_number : Gf K mg "_law_number" s_L_number ["_law_pool_here"] := ⟨_, d_L_number, fun_of F_L_number, He.glo_ok X G (c.fact 11 (f := .glo "_law_number") rfl), FunD.bindsN (ps := ["_law_pool_here"]) F_L_number fun _ _ _ _ _ _ us hl => match us, hl with | [_], _ => rfl⟩
  obtain ⟨d_L_same, F_L_same⟩ := c.def_ 12 (d := dt_L_same) rfl
  let G_L_same : Gf K mg "_law_same" s_L_same ["_law_actual", "_law_due"] := ⟨_, d_L_same, fun_of F_L_same, He.glo_ok X G (c.fact 12 (f := .glo "_law_same") rfl), FunD.bindsN (ps := ["_law_actual", "_law_due"]) F_L_same fun _ _ _ _ _ _ us hl => match us, hl with | [_, _], _ => rfl⟩
  obtain ⟨d_L_kinds, F_L_kinds⟩ := c.def_ 13 (d := dt_L_kinds) rfl
  let G_L_kinds : Gf K mg "_law_kinds" s_L_kinds ["_law_thing_here"] := ⟨_, d_L_kinds, fun_of F_L_kinds, He.glo_ok X G (c.fact 13 (f := .glo "_law_kinds") rfl), FunD.bindsN (ps := ["_law_thing_here"]) F_L_kinds fun _ _ _ _ _ _ us hl => match us, hl with | [_], _ => rfl⟩
  obtain ⟨d_L_made, F_L_made⟩ := c.def_ 14 (d := dt_L_made) rfl
  let G_L_made : Gf K mg "_law_made" s_L_made ["_law_first", "_law_second"] := ⟨_, d_L_made, fun_of F_L_made, He.glo_ok X G (c.fact 14 (f := .glo "_law_made") rfl), FunD.bindsN (ps := ["_law_first", "_law_second"]) F_L_made fun _ _ _ _ _ _ us hl => match us, hl with | [_, _], _ => rfl⟩
  obtain ⟨d_L_thing, F_L_thing⟩ := c.def_ 15 (d := dt_L_thing) rfl
  let G_L_thing : Gf K mg "_law_thing" s_L_thing ["_law_pool_here"] := ⟨_, d_L_thing, fun_of F_L_thing, He.glo_ok X G (c.fact 15 (f := .glo "_law_thing") rfl), FunD.bindsN (ps := ["_law_pool_here"]) F_L_thing fun _ _ _ _ _ _ us hl => match us, hl with | [_], _ => rfl⟩
  obtain ⟨d_L_foreign, F_L_foreign⟩ := c.def_ 16 (d := dt_L_foreign) rfl
  let G_L_foreign : Gf K mg "_law_foreign" s_L_foreign ["_law_thing_here"] := ⟨_, d_L_foreign, fun_of F_L_foreign, He.glo_ok X G (c.fact 16 (f := .glo "_law_foreign") rfl), FunD.bindsN (ps := ["_law_thing_here"]) F_L_foreign fun _ _ _ _ _ _ us hl => match us, hl with | [_], _ => rfl⟩
  obtain ⟨d_law, F_law⟩ := c.def_ 17 (d := dt_law) rfl
  let G_law : Gf K mg "law" s_law ["_law_script"] := ⟨_, d_law, fun_of F_law, He.glo_ok X G (c.fact 17 (f := .glo "law") rfl), FunD.bindsN (ps := ["_law_script"]) F_law fun _ _ _ _ _ _ us hl => match us, hl with | [_], _ => rfl⟩
  have e := hfa.symm.trans (He.glo_ok X G (c.fact 17 (f := .glo "law") rfl))
  cases e
  have M : Blt mg := ⟨He.free_ok X G (c.fact 18 (f := .free "range") rfl), He.free_ok X G (c.fact 19 (f := .free "enumerate") rfl), He.free_ok X G (c.fact 20 (f := .free "zip") rfl), He.free_ok X G (c.fact 21 (f := .free "sum") rfl), He.free_ok X G (c.fact 22 (f := .free "len") rfl), He.free_ok X G (c.fact 23 (f := .free "int") rfl), He.free_ok X G (c.fact 24 (f := .free "list") rfl), He.free_ok X G (c.fact 25 (f := .free "isinstance") rfl), He.free_ok X G (c.fact 26 (f := .free "bool") rfl), He.free_ok X G (c.fact 27 (f := .free "str") rfl), He.free_ok X G (c.fact 28 (f := .free "tuple") rfl), He.free_ok X G (c.fact 29 (f := .free "abs") rfl), He.free_ok X G (c.fact 30 (f := .free "all") rfl), He.free_ok X G (c.fact 31 (f := .free "any") rfl), He.free_ok X G (c.fact 32 (f := .free "sorted") rfl), He.free_ok X G (c.fact 33 (f := .free "reversed") rfl), He.free_ok X G (c.fact 34 (f := .free "min") rfl), He.free_ok X G (c.fact 35 (f := .free "max") rfl), He.free_ok X G (c.fact 36 (f := .free "ValueError") rfl), He.free_ok X G (c.fact 37 (f := .free "KeyError") rfl), He.free_ok X G (c.fact 38 (f := .free "IndexError") rfl), He.free_ok X G (c.fact 39 (f := .free "TypeError") rfl), He.free_ok X G (c.fact 40 (f := .free "ZeroDivisionError") rfl), He.free_ok X G (c.fact 41 (f := .free "AttributeError") rfl)⟩
  let E_NoCells : Xc0 K mg "NoCells" := Xc0.of X G (c.fact 42 (f := .glo "NoCells") rfl) (ce.ex 1 (e := exc0B "NoCells") rfl)
  let E_NoProcedure : Xc0 K mg "NoProcedure" := Xc0.of X G (c.fact 43 (f := .glo "NoProcedure") rfl) (ce.ex 2 (e := exc0B "NoProcedure") rfl)
  let E_NoPath : Xc0 K mg "NoPath" := Xc0.of X G (c.fact 44 (f := .glo "NoPath") rfl) (ce.ex 3 (e := exc0B "NoPath") rfl)
  let E_NoBoard : Xc0 K mg "NoBoard" := Xc0.of X G (c.fact 45 (f := .glo "NoBoard") rfl) (ce.ex 4 (e := exc0B "NoBoard") rfl)
  let E_NoNumber : Xc0 K mg "NoNumber" := Xc0.of X G (c.fact 46 (f := .glo "NoNumber") rfl) (ce.ex 5 (e := exc0B "NoNumber") rfl)
  let E_NoDeed : Xc0 K mg "NoDeed" := Xc0.of X G (c.fact 47 (f := .glo "NoDeed") rfl) (ce.ex 6 (e := exc0B "NoDeed") rfl)
  let E_NoWidth : Xc0 K mg "NoWidth" := Xc0.of X G (c.fact 48 (f := .glo "NoWidth") rfl) (ce.ex 7 (e := exc0B "NoWidth") rfl)
  let E_NoTable : Xc0 K mg "NoTable" := Xc0.of X G (c.fact 49 (f := .glo "NoTable") rfl) (ce.ex 8 (e := exc0B "NoTable") rfl)
  let E_NoClass : Xc0 K mg "NoClass" := Xc0.of X G (c.fact 50 (f := .glo "NoClass") rfl) (ce.ex 9 (e := exc0B "NoClass") rfl)
  let E_NoState : Xc0 K mg "NoState" := Xc0.of X G (c.fact 51 (f := .glo "NoState") rfl) (ce.ex 10 (e := exc0B "NoState") rfl)
  let E_NoClasses : Xc0 K mg "NoClasses" := Xc0.of X G (c.fact 52 (f := .glo "NoClasses") rfl) (ce.ex 11 (e := exc0B "NoClasses") rfl)
  let E_NoClaims : Xc0 K mg "NoClaims" := Xc0.of X G (c.fact 53 (f := .glo "NoClaims") rfl) (ce.ex 12 (e := exc0B "NoClaims") rfl)
  let E_NoOrder : Xc0 K mg "NoOrder" := Xc0.of X G (c.fact 54 (f := .glo "NoOrder") rfl) (ce.ex 13 (e := exc0B "NoOrder") rfl)
  let E_NoFault : Xc0 K mg "NoFault" := Xc0.of X G (c.fact 55 (f := .glo "NoFault") rfl) (ce.ex 14 (e := exc0B "NoFault") rfl)
  let E_NoMany : Xc0 K mg "NoMany" := Xc0.of X G (c.fact 56 (f := .glo "NoMany") rfl) (ce.ex 15 (e := exc0B "NoMany") rfl)
  let E_NoList : Xc0 K mg "NoList" := Xc0.of X G (c.fact 57 (f := .glo "NoList") rfl) (ce.ex 16 (e := exc0B "NoList") rfl)
  let E_NoIndex : Xc0 K mg "NoIndex" := Xc0.of X G (c.fact 58 (f := .glo "NoIndex") rfl) (ce.ex 17 (e := exc0B "NoIndex") rfl)
  let E_NoDeeds : Xc0 K mg "NoDeeds" := Xc0.of X G (c.fact 59 (f := .glo "NoDeeds") rfl) (ce.ex 18 (e := exc0B "NoDeeds") rfl)
  let E_NotLet : Xc0 K mg "NotLet" := Xc0.of X G (c.fact 60 (f := .glo "NotLet") rfl) (ce.ex 19 (e := exc0B "NotLet") rfl)
  let E_NoReplica : Xc0 K mg "NoReplica" := Xc0.of X G (c.fact 61 (f := .glo "NoReplica") rfl) (ce.ex 20 (e := exc0B "NoReplica") rfl)
  let E_Held : Xc0 K mg "Held" := Xc0.of X G (c.fact 62 (f := .glo "Held") rfl) (ce.ex 21 (e := exc0B "Held") rfl)
  have X_NoRun : Xh K (He.ga K "NoRun") "index" := xh_ok (ce.ex 26 (e := xhB "NoRun" "index") rfl)
  have X_NoHistory : Xh K (He.ga K "NoHistory") "index" := xh_ok (ce.ex 28 (e := xhB "NoHistory" "index") rfl)
  have X_NoVectors : Xh K (He.ga K "NoVectors") "index" := xh_ok (ce.ex 30 (e := xhB "NoVectors" "index") rfl)
  have X_NoEquations : Xh K (He.ga K "NoEquations") "index" := xh_ok (ce.ex 32 (e := xhB "NoEquations" "index") rfl)
  have X_NoEquation : Xh K (He.ga K "NoEquation") "place" := xh_ok (ce.ex 34 (e := xhB "NoEquation" "place") rfl)
  have X_NoSender : Xh K (He.ga K "NoSender") "state" := xh_ok (ce.ex 36 (e := xhB "NoSender" "state") rfl)
  have X_TooMany : Xh K (He.ga K "TooMany") "many" := xh_ok (ce.ex 38 (e := xhB "TooMany" "many") rfl)
  have X_NoText : Xh K (He.ga K "NoText") "line" := xh_ok (ce.ex 40 (e := xhB "NoText" "line") rfl)
  let E_BoardError : Xc0 K mg "BoardError" := Xc0.of X G (c.fact 72 (f := .glo "BoardError") rfl) (ce.ex 41 (e := exc0B "BoardError") rfl)
  exact ⟨d_law, fun s v => bd_law F_law s [v] rfl, fun base _ _ => (let E_NoBook : Xc2 P w K mg base "NoBook" "procedure" "path" := Xc2.of X G (c.fact 63 (f := .glo "NoBook") rfl) (ce.ex 22 (e := oexB "NoBook") rfl) (ce.ex 23 (e := xhB "NoBook" "procedure") rfl) (ce.ex 24 (e := xhB "NoBook" "path") rfl) G_NoBook_init sc_NoBook_init rfl; let E_NoRun : Xc1 P w K mg base "NoRun" "index" := Xc1.of X G (c.fact 64 (f := .glo "NoRun") rfl) (ce.ex 25 (e := oexB "NoRun") rfl) (ce.ex 26 (e := xhB "NoRun" "index") rfl) G_NoRun_init sc_NoRun_init rfl; let E_NoHistory : Xc1 P w K mg base "NoHistory" "index" := Xc1.of X G (c.fact 65 (f := .glo "NoHistory") rfl) (ce.ex 27 (e := oexB "NoHistory") rfl) (ce.ex 28 (e := xhB "NoHistory" "index") rfl) G_NoHistory_init sc_NoHistory_init rfl; let E_NoVectors : Xc1 P w K mg base "NoVectors" "index" := Xc1.of X G (c.fact 66 (f := .glo "NoVectors") rfl) (ce.ex 29 (e := oexB "NoVectors") rfl) (ce.ex 30 (e := xhB "NoVectors" "index") rfl) G_NoVectors_init sc_NoVectors_init rfl; let E_NoEquations : Xc1 P w K mg base "NoEquations" "index" := Xc1.of X G (c.fact 67 (f := .glo "NoEquations") rfl) (ce.ex 31 (e := oexB "NoEquations") rfl) (ce.ex 32 (e := xhB "NoEquations" "index") rfl) G_NoEquations_init sc_NoEquations_init rfl; let E_NoEquation : Xc1 P w K mg base "NoEquation" "place" := Xc1.of X G (c.fact 68 (f := .glo "NoEquation") rfl) (ce.ex 33 (e := oexB "NoEquation") rfl) (ce.ex 34 (e := xhB "NoEquation" "place") rfl) G_NoEquation_init sc_NoEquation_init rfl; let E_NoSender : Xc1 P w K mg base "NoSender" "state" := Xc1.of X G (c.fact 69 (f := .glo "NoSender") rfl) (ce.ex 35 (e := oexB "NoSender") rfl) (ce.ex 36 (e := xhB "NoSender" "state") rfl) G_NoSender_init sc_NoSender_init rfl; let E_TooMany : Xc1 P w K mg base "TooMany" "many" := Xc1.of X G (c.fact 70 (f := .glo "TooMany") rfl) (ce.ex 37 (e := oexB "TooMany") rfl) (ce.ex 38 (e := xhB "TooMany" "many") rfl) G_TooMany_init sc_TooMany_init rfl; let E_NoText : Xc1 P w K mg base "NoText" "line" := Xc1.of X G (c.fact 71 (f := .glo "NoText") rfl) (ce.ex 39 (e := oexB "NoText") rfl) (ce.ex 40 (e := xhB "NoText" "line") rfl) G_NoText_init sc_NoText_init rfl; have X_NoBook__path : Xh K E_NoBook.C "path" := xh_ok (ce.ex 24 (e := xhB "NoBook" "path") rfl); have X_NoBook__procedure : Xh K E_NoBook.C "procedure" := xh_ok (ce.ex 23 (e := xhB "NoBook" "procedure") rfl); have C_NoBook_BoardError : PySem.W.exmOne K (.ref E_NoBook.C) (.ref E_BoardError.C) = some true := exmT_ok (ce.ex 42 (e := exmT "NoBook" "BoardError") rfl); have KX : Kinds K [E_NoCells.C, E_NoProcedure.C, E_NoPath.C, E_NoBoard.C, E_NoNumber.C, E_NoDeed.C, E_NoWidth.C, E_NoTable.C, E_NoClass.C, E_NoState.C, E_NoClasses.C, E_NoClaims.C, E_NoOrder.C, E_NoFault.C, E_NoMany.C, E_NoList.C, E_NoIndex.C, E_NoDeeds.C, E_NotLet.C, E_NoReplica.C, E_Held.C, E_NoBook.C, E_NoRun.C, E_NoHistory.C, E_NoVectors.C, E_NoEquations.C, E_NoEquation.C, E_NoSender.C, E_TooMany.C, E_NoText.C, E_BoardError.C] [("ValueError", true), ("KeyError", false), ("IndexError", false), ("TypeError", false), ("ZeroDivisionError", false), ("AttributeError", false)] := kinds_ok (ce.ex 51 (e := kindsB ["NoCells", "NoProcedure", "NoPath", "NoBoard", "NoNumber", "NoDeed", "NoWidth", "NoTable", "NoClass", "NoState", "NoClasses", "NoClaims", "NoOrder", "NoFault", "NoMany", "NoList", "NoIndex", "NoDeeds", "NotLet", "NoReplica", "Held", "NoBook", "NoRun", "NoHistory", "NoVectors", "NoEquations", "NoEquation", "NoSender", "TooMany", "NoText", "BoardError"] [("ValueError", true), ("KeyError", false), ("IndexError", false), ("TypeError", false), ("ZeroDivisionError", false), ("AttributeError", false)]) rfl); have X_NoEquation__place : Xh K E_NoEquation.C "place" := xh_ok (ce.ex 34 (e := xhB "NoEquation" "place") rfl); have X_NoEquations__index : Xh K E_NoEquations.C "index" := xh_ok (ce.ex 32 (e := xhB "NoEquations" "index") rfl); have X_NoHistory__index : Xh K E_NoHistory.C "index" := xh_ok (ce.ex 28 (e := xhB "NoHistory" "index") rfl); have X_NoRun__index : Xh K E_NoRun.C "index" := xh_ok (ce.ex 26 (e := xhB "NoRun" "index") rfl); have X_NoSender__state : Xh K E_NoSender.C "state" := xh_ok (ce.ex 36 (e := xhB "NoSender" "state") rfl); have X_NoText__line : Xh K E_NoText.C "line" := xh_ok (ce.ex 40 (e := xhB "NoText" "line") rfl); have X_NoVectors__index : Xh K E_NoVectors.C "index" := xh_ok (ce.ex 30 (e := xhB "NoVectors" "index") rfl); have X_TooMany__many : Xh K E_TooMany.C "many" := xh_ok (ce.ex 38 (e := xhB "TooMany" "many") rfl); ok_law M hSeer hTree E_NoCells E_NoProcedure E_NoPath E_NoBoard E_NoNumber E_NoDeed E_NoWidth E_NoTable E_NoClass E_NoState E_NoClasses E_NoClaims E_NoOrder E_NoFault E_NoMany E_NoList E_NoIndex E_NoDeeds E_NotLet E_NoReplica E_Held E_NoBook E_NoRun E_NoHistory E_NoVectors E_NoEquations E_NoEquation E_NoSender E_TooMany E_NoText E_BoardError KX X_NoBook__procedure X_NoBook__path X_NoRun__index X_NoHistory__index X_NoVectors__index X_NoEquations__index X_NoEquation__place X_NoSender__state X_TooMany__many X_NoText__line C_NoBook_BoardError G_L_pool G_L_draw G_L_number G_L_same G_L_kinds G_L_made G_L_thing G_L_foreign G_law)⟩
end Kx
open PySem PySem.W PySem.Calls PyProof.Rows
theorem PySem.Challenge.cw_sharedboard_k00_errors_holds : PySem.Challenge.rw_sharedboard_k00_errors.Holds := by
  w_on; o_law
  refine HandSHeadRun.head_any (r := OpenLaw.row PySem.Challenge.rw_sharedboard_k00_errors) (q := view (OpenLaw.row PySem.Challenge.rw_sharedboard_k00_errors).prog [41]) (H := Kx.hkB) (ob := Kx.obB) (M := 9000) (loose := Kx.looseT) (d := HandSHeadRun.topDef (OpenLaw.row PySem.Challenge.rw_sharedboard_k00_errors).prog 41) (kwd := []) Kx.obB_eq
    (by kernel_rfl) (fun s => by kernel_rfl) Kx.runT (by kernel_rfl) (by kernel_rfl) (by kernel_rfl) (by rfl) (by first | assumption | decide +kernel) (by decide +kernel) ⟨rfl, rfl, rfl, rfl, rfl, by decide +kernel⟩ ?hw ?hc
  case hw => w_witness2
  case hc =>
    refine L2.walk_ofE (l := PySem.Challenge.rw_sharedboard_k00_errors) (n := 63) (k := 30) (x := "_law_script") (CX := L2.CX0) rfl (by decide) (by kernel_rfl) ⟨rfl, by decide, by decide⟩ ?F (fun _ _ _ _ z => z)
    intro w mg fa h Y G hmg0
    obtain ⟨K, KX, c⟩ := Y
    have hmg : mg ("law" : PySem.Str) = some (.ref fa) := by
      have e : (HandSHeadRun.topDef (OpenLaw.row PySem.Challenge.rw_sharedboard_k00_errors).prog 41).name = ("law" : PySem.Str) := by kernel_rfl
      rw [← e]
      exact hmg0
    obtain ⟨fd, hb, hF⟩ := Kx.factsT (P := (PySem.Challenge.rw_sharedboard_k00_errors).prog) (w := w) (by rfl) KX G hmg c
    exact ⟨K, fd, DL.spS K DL.specLaw, KX, hb, fun H a ns hl _ hS => DL.law_sp H a ns hl hS, hF⟩

