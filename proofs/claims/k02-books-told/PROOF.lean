import PyProof.Rows.All
import PySem.Challenge.RW_sharedboard_k02_books_told
import Wide.All
import OpenK.AllK
import Wide.FinOn
import HandS.ForMost
import HandS.HeadHook2
import HandS.HeadHook3
import HandS.TupAny
import HandS.WideBits
import HandS.ExcInit
import HandS.ExcField
import HandS.TryMany
import HandS.Wide
import HandS.IsInst
import HandS.ExcOwn
import HandS.WordsExc
import HandS.Defaults
import HandS.Head0
import HandS.Head1
import HandS.Head2
import HandS.HeadEnd
import HandS.HeadHook1
import HandS.OwnEq
import HandS.Style
import PyProof.RulesMatch
import HandS.FStr
import HandS.Star
import HandS.Text
import HandS.MakeKwOnly
import KE.GoesEnum
import HandS.TupMul
import HandS.GenList
import PyProof.GenComp
import KE.KExcIs
import HandS.Deep
import HandS.SetFor
import KE.DataMinMax
import KE.SortData
import HandS.Rev
import PyProof.ListRange
set_option Elab.async false
set_option linter.all false
set_option autoImplicit false
set_option maxRecDepth 100000
set_option maxHeartbeats 4000000
/-! DL0: what the head's run is asked (it stands ahead of all else: the run wants much memory). -/
namespace DL
open PySem PySem.Spec PyProof.Rows L2 He
def tysD : List String := ["NoneType", "bool", "int", "str", "list", "tuple", "dict"]
def seerB (K : PySem.W.Frag) : Bool :=
  decide (PySem.W.nsIn K cStatics "sys.audit-hooks" = some none) && (decide (PySem.W.nsIn K cStatics "sys.dict" = some none) &&
  ((match K.lookup sysModules with
    | some ⟨_, _, .dict es _, _⟩ => es.toList.all (fun e => match e.key with | .str _ _ => true | _ => false) && (nsFind es "_pylong").isNone
    | _ => false) &&
  (match PySem.W.nsIn K mainGlobals "__builtins__" with
    | some (some (.ref bm)) => (match K.lookup bm with
      | some ⟨c, d, _, _⟩ => decide (c = .type "module") && decide (d = some builtinsNs)
      | _ => false)
    | _ => false)))
def obsE (fa : List Fa) (fn : List DefD) (ex : List (PySem.W.Frag → Bool)) (K : PySem.W.Frag) : AlD := ((obsD fa fn K).1 && ex.all fun e => e K, (obsD fa fn K).2)
def SaysE (fa : List Fa) (fn : List DefD) (ex : List (PySem.W.Frag → Bool)) (K : PySem.W.Frag) : Prop := obsE fa fn ex K = valD fn
def obsEG (n : Nat) (fa : List Fa) (fn : List DefD) (ex : List (PySem.W.Frag → Bool)) (g : Addr → Option Obj) : AlD := obsE fa fn ex (frG g (asD g n ++ [cStatics, sysModules]))
def hookE (n : Nat) (fa : List Fa) (fn : List DefD) (ex : List (PySem.W.Frag → Bool)) : PySem.W.Hook where
  α := AlD
  obs := fun s => obsEG n fa fn ex s.heap.get?
  val := fun _ => valD fn
  says := fun _ h => ∃ K : PySem.W.Frag, K.In h ∧ SaysE fa fn ex K
  of := fun _ _ e => ⟨_, frG_in, e⟩
  keeps := fun _ _ _ ⟨K, hK, c⟩ k => ⟨K, PySem.W.Frag.In.keeps hK k, c⟩
/-- an own class's facts -/
def clsB (x : Str) (K : PySem.W.Frag) : Bool :=
  (Fa.cls x).ok K && (eqO (PySem.W.findIn K (.ref (ga K x)) "__class__") (some (some (.builtin "object.__class__"))) &&
  (eqO (PySem.W.specialIn K (.builtin "object.__class__") "__get__") (some (some (.builtin "getset_descriptor.__get__"))) &&
  (decide (PySem.W.takesIn K (.builtin "object.__class__") = some true) &&
  (decide (PySem.W.mroIn K (ga K x) (.type "object") = some true) &&
  (tysD.all (fun T => decide (PySem.W.kitOne K (.ref (ga K x)) (.type T) = some false)) &&
  (decide (PySem.W.kitOne K (.ref (ga K x)) (.ref (ga K x)) = some true) &&
  (tysD.all (fun T => decide (PySem.W.kitOne K (.type T) (.ref (ga K x)) = some false)) &&
  (PySem.W.selfFirst K (ga K x) && (PySem.W.makesIn K (ga K x) && PySem.W.keepIn K (.ref (ga K x)))))))))))
def noatB (x : Str) (fields : List Str) (K : PySem.W.Frag) : Bool := fields.all fun f => eqO (PySem.W.findIn K (.ref (ga K x)) f) (some none)
def obsET (fa : List Fa) (fn : List DefD) (ex : List (PySem.W.Frag → Bool)) (ts : List Tab) (K : PySem.W.Frag) : AlT := (obsE fa fn ex K, ts.map fun t => dicW K (t.1 K))
def valET (fn : List DefD) (ts : List Tab) (w : World) : AlT := (valD fn, ts.map fun t => some (keysIn w.params t.2))
def SaysET (fa : List Fa) (fn : List DefD) (ex : List (PySem.W.Frag → Bool)) (ts : List Tab) (w : World) (K : PySem.W.Frag) : Prop := obsET fa fn ex ts K = valET fn ts w
def obsETG (n : Nat) (fa : List Fa) (fn : List DefD) (ex : List (PySem.W.Frag → Bool)) (ts : List Tab) (g : Addr → Option Obj) : AlT := obsET fa fn ex ts (frG g (asD g n ++ [cStatics, sysModules]))
def hookET (n : Nat) (fa : List Fa) (fn : List DefD) (ex : List (PySem.W.Frag → Bool)) (ts : List Tab) : PySem.W.Hook where
  α := AlT
  obs := fun s => obsETG n fa fn ex ts s.heap.get?
  val := fun w => valET fn ts w
  says := fun w h => ∃ K : PySem.W.Frag, K.In h ∧ SaysET fa fn ex ts w K
  of := fun _ _ e => ⟨_, frG_in, e⟩
  keeps := fun _ _ _ ⟨K, hK, c⟩ k => ⟨K, PySem.W.Frag.In.keeps hK k, c⟩
/-- the table at the module's name x: its items, words that are no keys -/
def kdB (x : Str) (kvs : List (Str × Int)) (no : List Str) (K : PySem.W.Frag) : Bool := valsB K (ga K x) (kvs.map fun q => (q.1, Dv.int q.2)) && no.all fun z => eqO (PySem.W.nsIn K (ga K x) z) (some none)
end DL
set_option Elab.async false
set_option linter.all false
set_option autoImplicit false
set_option maxRecDepth 100000
set_option maxHeartbeats 4000000
/-! DL0b: what the head's run is asked of own exception classes. -/
namespace DL
open PySem PySem.Spec PyProof.Rows L2 He
/-- its object's form -/
def oexC1 (K : PySem.W.Frag) (C : Addr) : Bool := match K.lookup C with
  | some ⟨.type "type", _, .cls cd, sl⟩ => (match cd.mro, sl.toList with
    | .ref C' :: bm, [_, _, _, _, some (.builtin n), _] => C' == C && (n == "ValueError.__new__" && (!cd.hasDel && (cd.hasDict && PySem.HandSPX.refsVE (.ref C' :: bm))))
    | _, _ => false)
  | _ => false
def baseB (x : Str) (K : PySem.W.Frag) : Bool := decide (PySem.W.subIn K (.ref (ga K x)) (.type "BaseException") = some true) && (decide (PySem.W.typeIn K (.ref (ga K x)) = some (.type "type")) && PySem.W.keepIn K (.ref (ga K x)))
/-- a class with its own __init__ -/
def oexB (x : Str) (K : PySem.W.Frag) : Bool := oexC1 K (ga K x) && (eqO (PySem.W.findIn K (.ref (ga K x)) "__setattr__") (some (some (.builtin "object.__setattr__"))) && baseB x K)
/-- a class without one -/
def exc0B (x : Str) (K : PySem.W.Frag) : Bool := PySem.W.excIn K (ga K x) [.type "ValueError", .type "Exception", .type "BaseException", .type "object"] "ValueError.__new__" && baseB x K
/-- caught by its name, its field f read -/
def xhB (x f : Str) (K : PySem.W.Frag) : Bool := decide (PySem.W.exmOne K (.ref (ga K x)) (.ref (ga K x)) = some true) && (xfB K (ga K x) && eqO (PySem.W.findIn K (.ref (ga K x)) f) (some none))
end DL
set_option Elab.async false
set_option linter.all false
set_option autoImplicit false
set_option maxRecDepth 100000
set_option maxHeartbeats 4000000
/-! DL0c: what the head's run is asked of a class that is caught by its own name. -/
namespace DL
open PySem PySem.Spec PyProof.Rows L2 He
def exmB (x : Str) (K : PySem.W.Frag) : Bool := decide (PySem.W.exmOne K (.ref (ga K x)) (.ref (ga K x)) = some true)
end DL
set_option Elab.async false
set_option linter.all false
set_option autoImplicit false
set_option maxRecDepth 100000
set_option maxHeartbeats 4000000
/-! DL0d: what the head's run is asked of two classes of which the one is not caught by the other's name. -/
namespace DL
open PySem PySem.Spec PyProof.Rows L2 He
def exmN (x y : Str) (K : PySem.W.Frag) : Bool := decide (PySem.W.exmOne K (.ref (ga K x)) (.ref (ga K y)) = some false)
end DL
set_option Elab.async false
set_option linter.all false
set_option autoImplicit false
set_option maxRecDepth 100000
set_option maxHeartbeats 4000000
/-! DL0e: what the head's run is asked of an own exception class that isinstance looks at. -/
namespace DL
open PySem PySem.Spec PyProof.Rows L2 He
def xisB (x : Str) (K : PySem.W.Frag) : Bool := decide ((PySem.W.clsIn K (ga K x)).isSome = true) && decide (PySem.W.findIn K (.ref (ga K x)) "__getattribute__" = some (some (.builtin "BaseException.__getattribute__"))) &&
  decide (PySem.W.findIn K (.ref (ga K x)) "__getattr__" = some none) && decide (PySem.W.subIn K (.ref (ga K x)) (.type "BaseException") = some true) && decide (PySem.W.findIn K (.ref (ga K x)) "__class__" = some (some (.builtin "object.__class__"))) &&
  decide (PySem.W.specialIn K (.builtin "object.__class__") "__get__" = some (some (.builtin "getset_descriptor.__get__"))) && decide (PySem.W.takesIn K (.builtin "object.__class__") = some true) && decide (PySem.W.mroIn K (ga K x) (.type "object") = some true)
def kitXB (x y : Str) (b : Bool) (K : PySem.W.Frag) : Bool := decide (PySem.W.kitOne K (.ref (ga K x)) (.ref (ga K y)) = some b)
end DL
set_option Elab.async false
set_option linter.all false
set_option autoImplicit false
set_option maxRecDepth 100000
set_option maxHeartbeats 4000000
/-! DL0f: what the head's run is asked of an own exception class that a name of another class catches, and of isinstance with a class of the language. -/
namespace DL
open PySem PySem.Spec PyProof.Rows L2 He
def exmT (x y : Str) (K : PySem.W.Frag) : Bool := decide (PySem.W.exmOne K (.ref (ga K x)) (.ref (ga K y)) = some true)
def kitTB (x : Str) (y : String) (b : Bool) (K : PySem.W.Frag) : Bool := decide (PySem.W.kitOne K (.ref (ga K x)) (.type y) = some b)
end DL
namespace Kx
open PySem PySem.Spec PyProof.Rows L2 DL
def topS (i : Nat) : Stmt := PySem.Challenge.pw_sharedboard_k02_books_told.main.body.getD i (.Pass ⟨0, 0, 0, 0⟩)
def methS (i j : Nat) : Stmt := match topS i with
  | .ClassDef (body := b) .. => b.getD j (.Pass ⟨0, 0, 0, 0⟩)
  | s => s
def dt_is_integer : He.DefD := ⟨("is_integer", none), "is_integer", "is_integer", defArgs (topS 8), defBody (topS 8), defScope (topS 8), [], []⟩
def dt_is_bit : He.DefD := ⟨("is_bit", none), "is_bit", "is_bit", defArgs (topS 9), defBody (topS 9), defScope (topS 9), [], []⟩
def dt_is_index : He.DefD := ⟨("is_index", none), "is_index", "is_index", defArgs (topS 10), defBody (topS 10), defScope (topS 10), [], []⟩
def dt_is_vector : He.DefD := ⟨("is_vector", none), "is_vector", "is_vector", defArgs (topS 11), defBody (topS 11), defScope (topS 11), [], []⟩
def dt_is_row : He.DefD := ⟨("is_row", none), "is_row", "is_row", defArgs (topS 12), defBody (topS 12), defScope (topS 12), [], []⟩
def dt_are_cells : He.DefD := ⟨("are_cells", none), "are_cells", "are_cells", defArgs (topS 13), defBody (topS 13), defScope (topS 13), [], []⟩
def dt_blocks_of : He.DefD := ⟨("blocks_of", none), "blocks_of", "blocks_of", defArgs (topS 22), defBody (topS 22), defScope (topS 22), [], []⟩
def dt_copied_statement : He.DefD := ⟨("copied_statement", none), "copied_statement", "copied_statement", defArgs (topS 23), defBody (topS 23), defScope (topS 23), [], []⟩
def dt_copied_block : He.DefD := ⟨("copied_block", none), "copied_block", "copied_block", defArgs (topS 24), defBody (topS 24), defScope (topS 24), [], []⟩
def dt_is_word : He.DefD := ⟨("is_word", none), "is_word", "is_word", defArgs (topS 25), defBody (topS 25), defScope (topS 25), [], []⟩
def dt_is_command : He.DefD := ⟨("is_command", none), "is_command", "is_command", defArgs (topS 26), defBody (topS 26), defScope (topS 26), [], []⟩
def dt_has_form : He.DefD := ⟨("has_form", none), "has_form", "has_form", defArgs (topS 27), defBody (topS 27), defScope (topS 27), [], []⟩
def dt_first_fault : He.DefD := ⟨("first_fault", none), "first_fault", "first_fault", defArgs (topS 28), defBody (topS 28), defScope (topS 28), [], []⟩
def dt_Book_init : He.DefD := ⟨("Book", some "__init__"), "__init__", "Book.__init__", defArgs (methS 30 0), defBody (methS 30 0), defScope (methS 30 0), [], []⟩
def dt_Book_len : He.DefD := ⟨("Book", some "__len__"), "__len__", "Book.__len__", defArgs (methS 30 1), defBody (methS 30 1), defScope (methS 30 1), [], []⟩
def dt_Book_eq : He.DefD := ⟨("Book", some "__eq__"), "__eq__", "Book.__eq__", defArgs (methS 30 2), defBody (methS 30 2), defScope (methS 30 2), [], []⟩
def dt_Book_cells : He.DefD := ⟨("Book", some "cells"), "cells", "Book.cells", defArgs (methS 30 5), defBody (methS 30 5), defScope (methS 30 5), [], []⟩
def dt_Book_bodies : He.DefD := ⟨("Book", some "bodies"), "bodies", "Book.bodies", defArgs (methS 30 6), defBody (methS 30 6), defScope (methS 30 6), [], []⟩
def dt_L_pool : He.DefD := ⟨("_law_pool", none), "_law_pool", "_law_pool", defArgs (topS 32), defBody (topS 32), defScope (topS 32), [], []⟩
def dt_L_draw : He.DefD := ⟨("_law_draw", none), "_law_draw", "_law_draw", defArgs (topS 33), defBody (topS 33), defScope (topS 33), [], []⟩
def dt_L_row : He.DefD := ⟨("_law_row", none), "_law_row", "_law_row", defArgs (topS 34), defBody (topS 34), defScope (topS 34), [], []⟩
def dt_L_command : He.DefD := ⟨("_law_command", none), "_law_command", "_law_command", defArgs (topS 35), defBody (topS 35), defScope (topS 35), [], []⟩
def dt_L_some_cells : He.DefD := ⟨("_law_some_cells", none), "_law_some_cells", "_law_some_cells", defArgs (topS 36), defBody (topS 36), defScope (topS 36), [], []⟩
def dt_L_block : He.DefD := ⟨("_law_block", none), "_law_block", "_law_block", defArgs (topS 37), defBody (topS 37), defScope (topS 37), [], []⟩
def dt_L_statement : He.DefD := ⟨("_law_statement", none), "_law_statement", "_law_statement", defArgs (topS 38), defBody (topS 38), defScope (topS 38), [], []⟩
def dt_L_body : He.DefD := ⟨("_law_body", none), "_law_body", "_law_body", defArgs (topS 39), defBody (topS 39), defScope (topS 39), [], []⟩
def dt_L_bodies : He.DefD := ⟨("_law_bodies", none), "_law_bodies", "_law_bodies", defArgs (topS 40), defBody (topS 40), defScope (topS 40), [], []⟩
def dt_L_copied : He.DefD := ⟨("_law_copied", none), "_law_copied", "_law_copied", defArgs (topS 41), defBody (topS 41), defScope (topS 41), [], []⟩
def dt_L_same : He.DefD := ⟨("_law_same", none), "_law_same", "_law_same", defArgs (topS 42), defBody (topS 42), defScope (topS 42), [], []⟩
def dt_L_longer : He.DefD := ⟨("_law_longer", none), "_law_longer", "_law_longer", defArgs (topS 43), defBody (topS 43), defScope (topS 43), [], []⟩
def dt_L_spoiled : He.DefD := ⟨("_law_spoiled", none), "_law_spoiled", "_law_spoiled", defArgs (topS 44), defBody (topS 44), defScope (topS 44), [], []⟩
def dt_L_turned : He.DefD := ⟨("_law_turned", none), "_law_turned", "_law_turned", defArgs (topS 45), defBody (topS 45), defScope (topS 45), [], []⟩
def dt_L_tells : He.DefD := ⟨("_law_tells", none), "_law_tells", "_law_tells", defArgs (topS 46), defBody (topS 46), defScope (topS 46), [], []⟩
def dt_L_shared_right : He.DefD := ⟨("_law_shared_right", none), "_law_shared_right", "_law_shared_right", defArgs (topS 47), defBody (topS 47), defScope (topS 47), [], []⟩
def dt_law : He.DefD := ⟨("law", none), "law", "law", defArgs (topS 48), defBody (topS 48), defScope (topS 48), [], []⟩
def fnT : List He.DefD := [dt_is_integer, dt_is_bit, dt_is_index, dt_is_vector, dt_is_row, dt_are_cells, dt_blocks_of, dt_copied_statement, dt_copied_block, dt_is_word, dt_is_command, dt_has_form, dt_first_fault, dt_Book_init, dt_Book_len, dt_Book_eq, dt_Book_cells, dt_Book_bodies, dt_L_pool, dt_L_draw, dt_L_row, dt_L_command, dt_L_some_cells, dt_L_block, dt_L_statement, dt_L_body, dt_L_bodies, dt_L_copied, dt_L_same, dt_L_longer, dt_L_spoiled, dt_L_turned, dt_L_tells, dt_L_shared_right, dt_law]
def faT : List He.Fa := [.glo "is_integer", .glo "is_bit", .glo "is_index", .glo "is_vector", .glo "is_row", .glo "are_cells", .glo "blocks_of", .glo "copied_statement", .glo "copied_block", .glo "is_word", .glo "is_command", .glo "has_form", .glo "first_fault", .meth "Book" "__init__", .meth "Book" "__len__", .meth "Book" "__eq__", .meth "Book" "cells", .meth "Book" "bodies", .glo "_law_pool", .glo "_law_draw", .glo "_law_row", .glo "_law_command", .glo "_law_some_cells", .glo "_law_block", .glo "_law_statement", .glo "_law_body", .glo "_law_bodies", .glo "_law_copied", .glo "_law_same", .glo "_law_longer", .glo "_law_spoiled", .glo "_law_turned", .glo "_law_tells", .glo "_law_shared_right", .glo "law", .free "range", .free "enumerate", .free "zip", .free "sum", .free "len", .free "int", .free "list", .free "isinstance", .free "bool", .free "str", .free "tuple", .free "abs", .free "all", .free "any", .free "sorted", .free "reversed", .free "min", .free "max", .free "ValueError", .glo "Book", .int "MOST_CELLS" 3, .int "MOST_PROCEDURES" 3, .int "MOST_IN_LIST" 8, .int "MOST_IN_PROCEDURE" 12, .int "DEEPEST" 3, .glo "SIZES"]
def exT : List (PySem.W.Frag → Bool) := [clsB "Book", noatB "Book" ["many", "own", "run_memo", "deed_memo"], seerB, kdB "SIZES" [("set", 3), ("carry", 2), ("keep", 3), ("either", 3), ("again", 2), ("call", 4), ("end", 2)] []]
abbrev RT : PySem.W.OpenRow := PySem.W.OpenLaw.row PySem.Challenge.rw_sharedboard_k02_books_told
def tsT : List He.Tab := [(fun K => He.ga K "SIZES", ["set", "carry", "keep", "either", "again", "call", "end"])]
abbrev hkT : PySem.W.Hook := hookET 6 faT fnT exT tsT
def obT (s : PySem.W.SharedT) : He.AlT := obsETG 6 faT fnT exT tsT (HandSHeadRun.getT s)
def looseT : List Str := (["_wall", "BoardError", "NoCells", "NoBook", "NoProcedure", "NoPath", "is_integer", "is_bit", "is_index", "is_vector", "is_row", "are_cells", "has_procedure", "MOST_CELLS", "MOST_PROCEDURES", "MOST_IN_LIST", "MOST_IN_PROCEDURE", "DEEPEST", "SIZES", "blocks_of", "copied_statement", "copied_block", "is_word", "is_command", "has_form", "first_fault", "statement_at", "Book", "_law_pool", "_law_draw"] : List Str) ++ (["_law_row", "_law_command", "_law_some_cells", "_law_block", "_law_statement", "_law_body", "_law_bodies", "_law_copied", "_law_same", "_law_longer", "_law_spoiled", "_law_turned", "_law_tells", "_law_shared_right"] : List Str)
def asA : List Addr := ([3, 6, 4, 21, 31, 44, 63, 75, 87, 96, 103, 110, 115, 120, 127, 134, 135, 140, 145, 150, 157, 164, 169, 176, 183, 245, 256, 263, 270, 277, 282, 289, 296, 303, 308, 313, 318, 323, 330, 335, 342, 349, 356, 0, 20, 30, 43, 62, 74, 86, 95, 102, 109, 114, 119, 126, 133, 139, 144, 149] : List Addr) ++ ([156, 163, 168, 175, 182, 244, 255, 262, 269, 276, 281, 288, 295, 302, 307, 312, 317, 322, 329, 334, 341, 348, 355, 15, 16, 17, 18, 19, 29, 32, 42, 60, 61, 73, 85, 90, 91, 92, 93, 94, 97, 98, 99, 100, 101, 104, 105, 106, 107, 108, 111, 112, 113, 116, 117, 118, 121, 122, 123, 124] : List Addr) ++ ([125, 128, 129, 130, 131, 132, 136, 137, 138, 141, 142, 143, 146, 147, 148, 151, 152, 153, 154, 155, 158, 159, 160, 161, 162, 165, 166, 167, 170, 171, 172, 173, 174, 177, 178, 179, 180, 181, 195, 202, 209, 216, 223, 230, 235, 242, 243, 246, 247, 250, 251, 252, 253, 254, 257, 258, 259, 260, 261, 264] : List Addr) ++ ([265, 266, 267, 268, 271, 272, 273, 274, 275, 278, 279, 280, 283, 284, 285, 286, 287, 290, 291, 292, 293, 294, 297, 298, 299, 300, 301, 304, 305, 306, 309, 310, 311, 314, 315, 316, 319, 320, 321, 324, 325, 326, 327, 328, 331, 332, 333, 336, 337, 338, 339, 340, 343, 344, 345, 346, 347, 350, 351, 352] : List Addr) ++ ([353, 354, 59, 194, 201, 208, 215, 222, 229, 234, 241, 54, 55, 56, 57, 58, 191, 192, 193, 196, 197, 198, 199, 200, 203, 204, 205, 206, 207, 210, 211, 212, 213, 214, 217, 218, 219, 220, 221, 224, 225, 226, 227, 228, 231, 232, 233, 236, 237, 238, 239, 240, 2, 1] : List Addr)
def obB (s : PySem.W.SharedT) : He.AlT := obsET faT fnT exT tsT (He.frG (HandSHeadRun.getT s) asA)
/-- the hook that looks at written addresses -/
def hkB : PySem.W.Hook where
  α := He.AlT
  obs := fun s => obsET faT fnT exT tsT (He.frG s.heap.get? asA)
  val := hkT.val
  says := hkT.says
  of := fun w s e => ⟨_, He.frG_in, e⟩
  keeps := hkT.keeps
theorem obB_eq (s : PySem.W.SharedT) : obB s = hkB.obs s.abs := by
  unfold obB
  rw [show HandSHeadRun.getT s = s.abs.heap.get? from funext fun a => HandSHeadRun.getT_eq s a]
  rfl

theorem runT_false (w : World) : HandSHeadRun.RunEq RT (PySem.W.view RT.prog [48]) hkB obB 9000 looseT (w.withFollow "special-get-raises" false) := by
  intro os
  kernel_rfl
theorem runT_true (w : World) : HandSHeadRun.RunEq RT (PySem.W.view RT.prog [48]) hkB obB 9000 looseT (w.withFollow "special-get-raises" true) := by
  intro os
  kernel_rfl
theorem runT (w : World) : HandSHeadRun.RunEq RT (PySem.W.view RT.prog [48]) hkB obB 9000 looseT w := PySem.W.byRow2 "special-get-raises" (P := fun w => HandSHeadRun.RunEq RT (PySem.W.view RT.prog [48]) hkB obB 9000 looseT w) runT_false runT_true w
end Kx
set_option Elab.async false
set_option linter.all false
set_option autoImplicit false
set_option maxRecDepth 100000
set_option maxHeartbeats 4000000
/-! DL: a layer of plain data over the hand layer: values as trees, no heap in sight. -/
namespace DL
open PySem PySem.Spec PyProof.Rows L2

/-- plain data -/
inductive D where
  | non | bl (b : Bool) | int (i : Int) | str (s : Str) | lst (ds : List D) | tup (ds : List D)
  /-- an instance of the class at C, by its attributes -/
  | obj (C : Addr) (fs : List (Str × D))
  /-- an empty dict -/
  | emp
  /-- a box: what stands at p now -/
  | ref (p : Addr)
  deriving Inhabited

/-- at the stable heap S the value denotes the data -/
inductive Den (S : Hp) : V → D → Prop
  | non : Den S .non .non
  | bl (b : Bool) : Den S (.bl b) (.bl b)
  | int (i : Int) : Den S (.int i) (.int i)
  | str (s : Str) : Den S (.str s) (.str s)
  | lst {a : Addr} {xs : List V} {ds : List D} (h : S a = some (.lst xs)) (hl : xs.length = ds.length) (hs : ∀ (i : Nat) x d, xs[i]? = some x → ds[i]? = some d → Den S x d) : Den S (.ref a) (.lst ds)
  | tup {a : Addr} {xs : List V} {ds : List D} (h : S a = some (.tup xs)) (hl : xs.length = ds.length) (hs : ∀ (i : Nat) x d, xs[i]? = some x → ds[i]? = some d → Den S x d) : Den S (.ref a) (.tup ds)
  | obj {a dx C : Addr} {vs : List (Str × V)} {fs : List (Str × D)} (h : S a = some (.ins C dx vs)) (hl : vs.length = fs.length) (hn : ∀ (i : Nat) x d, vs[i]? = some x → fs[i]? = some d → x.1 = d.1) (hs : ∀ (i : Nat) x d, vs[i]? = some x → fs[i]? = some d → Den S x.2 d.2) : Den S (.ref a) (.obj C fs)
  | emp {a : Addr} (h : S a = some (.dK [])) : Den S (.ref a) .emp
  | ref (p : Addr) : Den S (.ref p) (.ref p)

def DenL (S : Hp) (xs : List V) (ds : List D) : Prop := xs.length = ds.length ∧ ∀ (i : Nat) x d, xs[i]? = some x → ds[i]? = some d → Den S x d

section
variable {S S' : Hp} {v x : V} {d : D} {xs ys : List V} {ds es : List D}
theorem Den.mono (h : Den S v d) (e : Same S S') : Den S' v d := by
  induction h with
  | non => exact .non
  | bl b => exact .bl b
  | int i => exact .int i
  | str s => exact .str s
  | lst h hl hs ih => exact .lst (e _ _ h) hl fun i x d h1 h2 => ih i x d h1 h2
  | tup h hl hs ih => exact .tup (e _ _ h) hl fun i x d h1 h2 => ih i x d h1 h2
  | obj h hl hn hs ih => exact .obj (e _ _ h) hl hn fun i x d h1 h2 => ih i x d h1 h2
  | emp h => exact .emp (e _ _ h)
  | ref p => exact .ref p
theorem DenL.mono (h : DenL S xs ds) (e : Same S S') : DenL S' xs ds := ⟨h.1, fun i x d h1 h2 => (h.2 i x d h1 h2).mono e⟩
theorem DenL.nil : DenL S [] [] := ⟨rfl, fun i x d h => by simp at h⟩
theorem DenL.cons (h : Den S x d) (t : DenL S xs ds) : DenL S (x :: xs) (d :: ds) := by
  refine ⟨by rw [List.length_cons, List.length_cons, t.1], fun i y e h1 h2 => ?_⟩
  cases i with
  | zero =>
    rw [List.getElem?_cons_zero] at h1 h2
    cases h1; cases h2
    exact h
  | succ i =>
    rw [List.getElem?_cons_succ] at h1 h2
    exact t.2 i y e h1 h2
theorem DenL.tail (t : DenL S (x :: xs) (d :: ds)) : DenL S xs ds := ⟨by have := t.1; simpa using this, fun i y e h1 h2 => t.2 (i + 1) y e (by simpa using h1) (by simpa using h2)⟩
theorem DenL.head (t : DenL S (x :: xs) (d :: ds)) : Den S x d := t.2 0 x d rfl rfl
theorem DenL.nil_inv (h : DenL S xs []) : xs = [] := List.length_eq_zero_iff.mp h.1
theorem DenL.cons_inv {d : D} {ds : List D} (h : DenL S xs (d :: ds)) : ∃ x r, xs = x :: r ∧ Den S x d ∧ DenL S r ds := by
  cases xs with
  | nil => have := h.1; simp at this
  | cons x r => exact ⟨x, r, rfl, h.head, h.tail⟩
theorem DenL.append (h : DenL S xs ds) (k : DenL S ys es) : DenL S (xs ++ ys) (ds ++ es) := by
  refine ⟨by rw [List.length_append, List.length_append, h.1, k.1], fun i y e h1 h2 => ?_⟩
  by_cases hi : i < xs.length
  · rw [List.getElem?_append_left hi] at h1
    rw [List.getElem?_append_left (by rw [← h.1]; exact hi)] at h2
    exact h.2 i y e h1 h2
  · rw [List.getElem?_append_right (by omega)] at h1
    rw [List.getElem?_append_right (by rw [← h.1]; omega), ← h.1] at h2
    exact k.2 _ y e h1 h2
theorem DenL.snoc (h : DenL S xs ds) (k : Den S v d) : DenL S (xs ++ [v]) (ds ++ [d]) := h.append (.cons k .nil)
theorem DenL.get (h : DenL S xs ds) {i : Nat} {d : D} (e : ds[i]? = some d) : ∃ x, xs[i]? = some x ∧ Den S x d := by
  have hi : i < ds.length := (List.getElem?_eq_some_iff.mp e).1
  have hx : i < xs.length := by rw [h.1]; exact hi
  exact ⟨xs[i], List.getElem?_eq_getElem hx, h.2 i _ _ (List.getElem?_eq_getElem hx) e⟩
theorem DenL.getV (h : DenL S xs ds) {i : Nat} {x : V} (e : xs[i]? = some x) : ∃ d, ds[i]? = some d ∧ Den S x d := by
  have hi : i < xs.length := (List.getElem?_eq_some_iff.mp e).1
  have hx : i < ds.length := by rw [← h.1]; exact hi
  exact ⟨ds[i], List.getElem?_eq_getElem hx, h.2 i _ _ e (List.getElem?_eq_getElem hx)⟩
theorem DenL.take (h : DenL S xs ds) (n : Nat) : DenL S (xs.take n) (ds.take n) := by
  refine ⟨by rw [List.length_take, List.length_take, h.1], fun i y e h1 h2 => ?_⟩
  rw [List.getElem?_take] at h1 h2
  split at h1
  · rename_i hi
    rw [if_pos hi] at h2
    exact h.2 i y e h1 h2
  · cases h1
theorem DenL.drop (h : DenL S xs ds) (n : Nat) : DenL S (xs.drop n) (ds.drop n) := by
  refine ⟨by rw [List.length_drop, List.length_drop, h.1], fun i y e h1 h2 => ?_⟩
  rw [List.getElem?_drop] at h1 h2
  exact h.2 _ y e h1 h2
theorem DenL.set (h : DenL S xs ds) (k : Den S v d) (j : Nat) : DenL S (xs.set j v) (ds.set j d) := by
  refine ⟨by rw [List.length_set, List.length_set, h.1], fun i y e h1 h2 => ?_⟩
  by_cases hi : j = i
  · subst hi
    by_cases hj : j < xs.length
    · rw [List.getElem?_set_self hj] at h1
      rw [List.getElem?_set_self (by rw [← h.1]; exact hj)] at h2
      cases h1; cases h2
      exact k
    · rw [List.getElem?_eq_none (by rw [List.length_set]; omega)] at h1
      cases h1
  · rw [List.getElem?_set_ne hi] at h1 h2
    exact h.2 i y e h1 h2
theorem DenL.ints : ∀ (ns : List Int), DenL S (ns.map V.int) (ns.map D.int)
  | [] => .nil
  | n :: r => .cons (.int n) (DenL.ints r)
theorem DenL.ints_inv : ∀ {ns : List Int} {xs : List V}, DenL S xs (ns.map D.int) → xs = ns.map V.int
  | [], _, h => h.nil_inv
  | n :: r, xs, h => by
    obtain ⟨x, t, rfl, h1, h2⟩ := DenL.cons_inv (d := .int n) (ds := r.map D.int) h
    cases h1
    rw [DenL.ints_inv h2]
    rfl
theorem DenL.bls_inv : ∀ {ns : List Bool} {xs : List V}, DenL S xs (ns.map D.bl) → xs = ns.map V.bl
  | [], _, h => h.nil_inv
  | n :: r, xs, h => by
    obtain ⟨x, t, rfl, h1, h2⟩ := DenL.cons_inv (d := .bl n) (ds := r.map D.bl) h
    cases h1
    rw [DenL.bls_inv h2]
    rfl
theorem Den.ofL {a : Addr} (h : S a = some (.lst xs)) (k : DenL S xs ds) : Den S (.ref a) (.lst ds) := .lst h k.1 k.2
theorem Den.ofT {a : Addr} (h : S a = some (.tup xs)) (k : DenL S xs ds) : Den S (.ref a) (.tup ds) := .tup h k.1 k.2
theorem Den.lst_inv (h : Den S v (.lst ds)) : ∃ a xs, v = .ref a ∧ S a = some (.lst xs) ∧ DenL S xs ds := by
  cases h with
  | lst h hl hs => exact ⟨_, _, rfl, h, hl, hs⟩
theorem Den.tup_inv (h : Den S v (.tup ds)) : ∃ a xs, v = .ref a ∧ S a = some (.tup xs) ∧ DenL S xs ds := by
  cases h with
  | tup h hl hs => exact ⟨_, _, rfl, h, hl, hs⟩
end

/-! ### attributes -/
/-- attributes denote data, name by name -/
def DenF (S : Hp) (vs : List (Str × V)) (fs : List (Str × D)) : Prop := vs.length = fs.length ∧ ∀ (i : Nat) x d, vs[i]? = some x → fs[i]? = some d → x.1 = d.1 ∧ Den S x.2 d.2
section
variable {S S' : Hp} {v : V} {d : D} {vs : List (Str × V)} {fs : List (Str × D)} {f : Str}
theorem DenF.mono (h : DenF S vs fs) (e : Same S S') : DenF S' vs fs := ⟨h.1, fun i x d h1 h2 => ⟨(h.2 i x d h1 h2).1, (h.2 i x d h1 h2).2.mono e⟩⟩
theorem DenF.nil : DenF S [] [] := ⟨rfl, fun i x d h => by simp at h⟩
theorem DenF.cons {x : Str × V} {d : Str × D} (e : x.1 = d.1) (h : Den S x.2 d.2) (t : DenF S vs fs) : DenF S (x :: vs) (d :: fs) := by
  refine ⟨by rw [List.length_cons, List.length_cons, t.1], fun i y c h1 h2 => ?_⟩
  cases i with
  | zero =>
    rw [List.getElem?_cons_zero] at h1 h2
    cases h1; cases h2
    exact ⟨e, h⟩
  | succ i =>
    rw [List.getElem?_cons_succ] at h1 h2
    exact t.2 i y c h1 h2
theorem DenF.tail {x : Str × V} {d : Str × D} (t : DenF S (x :: vs) (d :: fs)) : DenF S vs fs := ⟨by have := t.1; simpa using this, fun i y e h1 h2 => t.2 (i + 1) y e (by simpa using h1) (by simpa using h2)⟩
theorem DenF.head {x : Str × V} {d : Str × D} (t : DenF S (x :: vs) (d :: fs)) : x.1 = d.1 ∧ Den S x.2 d.2 := t.2 0 x d rfl rfl
theorem DenF.nil_inv (h : DenF S vs []) : vs = [] := List.length_eq_zero_iff.mp h.1
/-- an attribute by its name -/
theorem DenF.look : ∀ {vs : List (Str × V)} {fs : List (Str × D)}, DenF S vs fs → ∀ {d : D}, fs.lookup f = some d → ∃ v, vs.lookup f = some v ∧ Den S v d
  | [], [], _, d, e => by cases e
  | [], _ :: _, h, _, _ => by have := h.1; simp at this
  | _ :: _, [], h, _, _ => by have := h.1; simp at this
  | (g, x) :: vs, (k, y) :: fs, h, d, e => by
    obtain ⟨h1, h2⟩ := h.head
    have h1 : g = k := h1
    subst h1
    by_cases q : f = g
    · subst q
      rw [List.lookup_cons_self] at e ⊢
      cases e
      exact ⟨x, rfl, h2⟩
    · have b : (f == g) = false := beq_eq_false_iff_ne.mpr q
      rw [List.lookup_cons, b] at e ⊢
      exact h.tail.look e
theorem DenF.lookNone : ∀ {vs : List (Str × V)} {fs : List (Str × D)}, DenF S vs fs → fs.lookup f = none → vs.lookup f = none
  | [], _, _, _ => rfl
  | _ :: _, [], h, _ => by have := h.1; simp at this
  | (g, x) :: vs, (k, y) :: fs, h, e => by
    obtain ⟨h1, h2⟩ := h.head
    have h1 : g = k := h1
    subst h1
    by_cases q : f = g
    · subst q
      rw [List.lookup_cons_self] at e
      cases e
    · have b : (f == g) = false := beq_eq_false_iff_ne.mpr q
      rw [List.lookup_cons, b] at e ⊢
      exact h.tail.lookNone e
/-- an attribute set -/
def putD (f : Str) (d : D) : List (Str × D) → List (Str × D)
  | [] => [(f, d)]
  | (g, x) :: r => if g = f then (g, d) :: r else (g, x) :: putD f d r
theorem DenF.put : ∀ {vs : List (Str × V)} {fs : List (Str × D)}, DenF S vs fs → Den S v d → DenF S (putF f v vs) (putD f d fs)
  | [], [], _, h => .cons rfl h .nil
  | [], _ :: _, h, _ => by have := h.1; simp at this
  | _ :: _, [], h, _ => by have := h.1; simp at this
  | (g, x) :: vs, (k, y) :: fs, t, h => by
    obtain ⟨h1, h2⟩ := t.head
    have h1 : g = k := h1
    subst h1
    unfold putF putD
    by_cases q : g = f
    · rw [if_pos q, if_pos q]; exact .cons rfl h t.tail
    · rw [if_neg q, if_neg q]; exact .cons rfl h2 (t.tail.put h)
theorem Den.ofO {a dx C : Addr} (h : S a = some (.ins C dx vs)) (k : DenF S vs fs) : Den S (.ref a) (.obj C fs) := .obj h k.1 (fun i x d h1 h2 => (k.2 i x d h1 h2).1) (fun i x d h1 h2 => (k.2 i x d h1 h2).2)
theorem Den.obj_inv {C : Addr} (h : Den S v (.obj C fs)) : ∃ a dx vs, v = .ref a ∧ S a = some (.ins C dx vs) ∧ DenF S vs fs := by
  cases h with
  | obj h hl hn hs => exact ⟨_, _, _, rfl, h, hl, fun i x d h1 h2 => ⟨hn i x d h1 h2, hs i x d h1 h2⟩⟩
end

/-! ### the state: the slots' data over the stable heap S, the real heap H -/
/-- the entry: the heap, the stable heap, the caller's things that may change; things kept aside -/
structure Bs where
  H0 : Hp
  S0 : Hp
  mu : List Addr
  fr : List (Addr × HO) := []
  /-- what the caller's lists denote over -/
  SP : Hp := fun _ => none
def Bs.fram (B : Bs) (p : Addr) (o : HO) : Bs := { B with fr := (p, o) :: B.fr }
/-- what stands in a box: a list, an instance, a dict -/
inductive Bx where
  | lst (ds : List D) | ins (C : Addr) (fs : List (Str × D))
  /-- a dict with text keys -/
  | dct (fs : List (Str × D))
/-- boxes by their places -/
abbrev Bxs := Addr → Option Bx
def BxOk (S : Hp) : Option HO → Option Bx → Prop
  | none, none => True
  | some o, some (.lst ds) => ∃ xs, o = .lst xs ∧ DenL S xs ds
  | some o, some (.ins C fs) => ∃ dx vs, o = .ins C dx vs ∧ DenF S vs fs
  | some o, some (.dct fs) => ∃ vs : List (Str × V), o = .dK (vs.map fun p => (.inr p.1, p.2)) ∧ DenF S vs fs
  | _, _ => False
theorem BxOk.mono {S S' : Hp} {o : Option HO} {b : Option Bx} (h : BxOk S o b) (e : Same S S') : BxOk S' o b := by
  cases o with
  | none =>
    cases b with
    | none => trivial
    | some b => exact h.elim
  | some o =>
    cases b with
    | none => exact h.elim
    | some b =>
      cases b with
      | lst ds => obtain ⟨xs, h1, h2⟩ := h; exact ⟨xs, h1, h2.mono e⟩
      | ins C fs => obtain ⟨dx, vs, h1, h2⟩ := h; exact ⟨dx, vs, h1, h2.mono e⟩
      | dct fs => obtain ⟨vs, h1, h2⟩ := h; exact ⟨vs, h1, h2.mono e⟩
/-- boxes in the part F of the heap; finitely many -/
def BxsOk (S F : Hp) (L : Bxs) : Prop := (∃ ks : List Addr, ∀ p, L p ≠ none → p ∈ ks) ∧ ∀ p, BxOk S (F p) (L p)
/-- what a slot holds: unknown; data; a list of one's own (m: the caller's), by its items; the script; an instance of one's own -/
inductive Sl where
  | any | val (d : D) | own (m : Bool) (ds : List D) | scr (ns : List Int) | ins (m : Bool) (C : Addr) (fs : List (Str × D))
  /-- boxes (m: the caller's too) -/
  | hp (m : Bool) (L : Bxs)
def emptyH : Hp := fun _ => none
/-- F: the slot's own part of the heap -/
def SlF (K : PySem.W.Frag) (B : Bs) (S F : Hp) (o : Option (Option V)) : Sl → Prop
  | .any => True
  | .val d => ∃ v, o = some (some v) ∧ Den S v d
  | .own m ds => ∃ p xs, o = some (some (.ref p)) ∧ F p = some (.lst xs) ∧ DenL (if m = true then B.SP else S) xs ds ∧ (m = true → p ∈ B.mu)
  | .scr ns => ∃ a, o = some (some (.ref a)) ∧ SqL K S a (ns.map V.int)
  | .ins m C fs => ∃ p dx vs, o = some (some (.ref p)) ∧ F p = some (.ins C dx vs) ∧ DenF S vs fs ∧ (m = true → p ∈ B.mu)
  | .hp _ L => BxsOk S F L
/-- may the slot hold things of its own; the caller's too? -/
def Sl.may : Sl → Option Bool
  | .own m _ => some m
  | .ins m _ _ => some m
  | .hp m _ => some m
  | _ => none
/-- where the caller's thing of slot i stands -/
def Sl.at_ (s : Sl) (B : Bs) (i : Nat) (a : Addr) : Prop := match s with
  | .hp _ _ => a ∈ B.mu
  | _ => B.mu[i]? = some a
theorem Sl.at_mem {s : Sl} {B : Bs} {i : Nat} {a : Addr} (h : s.at_ B i a) : a ∈ B.mu := by
  cases s with
  | hp m L => exact h
  | any => exact List.mem_of_getElem? h
  | val d => exact List.mem_of_getElem? h
  | own m ds => exact List.mem_of_getElem? h
  | scr ns => exact List.mem_of_getElem? h
  | ins m C fs => exact List.mem_of_getElem? h
def MayOwn (B : Bs) (i : Nat) (s : Option Sl) (a : Addr) : Prop := ∃ s' m, s = some s' ∧ s'.may = some m ∧ (m = true ∧ s'.at_ B i a ∨ B.H0 a = none)
structure RelF (K : PySem.W.Frag) (B : Bs) (S H : Hp) (σ : L2.St) (γ : List Sl) (φ : Nat → Hp) : Prop where
  same : Same S H
  keep : ∀ a o, B.H0 a = some o → a ∉ B.mu → H a = some o
  muk : ∀ a, a ∈ B.mu → B.S0 a = none ∧ (∃ o, B.H0 a = some o) ∧ ∃ o, H a = some o
  grow : Same B.S0 S
  ext : ∀ a o, S a = some o → B.S0 a = some o ∨ B.H0 a = none
  len : σ.length = γ.length
  sl : ∀ (i : Nat) s, γ[i]? = some s → SlF K B S (φ i) σ[i]? s
  phH : ∀ i, Same (φ i) H
  phS : ∀ i a o, φ i a = some o → S a = none
  phD : ∀ i j a o u, i ≠ j → φ i a = some o → φ j a = some u → False
  phO : ∀ i a o, φ i a = some o → MayOwn B i γ[i]? a
  frm : ∀ p o, (p, o) ∈ B.fr → H p = some o ∧ S p = none ∧ B.H0 p = none ∧ ∀ i, φ i p = none
  frn : (B.fr.map (·.1)).Nodup
  spS : Same B.SP B.S0
def Rel0 (K : PySem.W.Frag) (B : Bs) (S H : Hp) (σ : L2.St) (γ : List Sl) : Prop := ∃ φ, RelF K B S H σ γ φ
/-- a slot by the real heap -/
def SlOk (K : PySem.W.Frag) (B : Bs) (S H : Hp) (o : Option (Option V)) : Sl → Prop
  | .any => True
  | .val d => ∃ v, o = some (some v) ∧ Den S v d
  | .own m ds => ∃ p xs, o = some (some (.ref p)) ∧ S p = none ∧ H p = some (.lst xs) ∧ DenL S xs ds ∧ (m = true → p ∈ B.mu ∧ DenL B.SP xs ds)
  | .scr ns => ∃ a, o = some (some (.ref a)) ∧ SqL K S a (ns.map V.int)
  | .ins m C fs => ∃ p dx vs, o = some (some (.ref p)) ∧ S p = none ∧ H p = some (.ins C dx vs) ∧ DenF S vs fs ∧ (m = true → p ∈ B.mu)
  | .hp m L => ∀ p b, L p = some b → S p = none ∧ BxOk S (H p) (some b)
theorem Same.upd {S H : Hp} {p : Addr} {o : HO} (e : Same S H) (h : H p = none) : Same S (upd H p o) := fun b x q => by
  rw [upd_ne (ne_of_none (e b x q) h)]
  exact e b x q
theorem Same.updS {S H : Hp} {p : Addr} {o : HO} (e : Same S H) (h : S p = none) : Same S (L2.upd H p o) := fun b x q => by
  rw [upd_ne (ne_of_none q h)]
  exact e b x q
theorem Same.updB {S H : Hp} {p : Addr} {o : HO} (e : Same S H) : Same (L2.upd S p o) (L2.upd H p o) := fun b x q => by
  by_cases hb : b = p
  · subst hb; rw [upd_same] at q ⊢; exact q
  · rw [upd_ne hb] at q ⊢; exact e b x q
theorem Same.updL {S H : Hp} {p : Addr} {o : HO} (e : Same S H) (h : H p = some o) : Same (L2.upd S p o) H := fun b x q => by
  by_cases hb : b = p
  · subst hb; rw [upd_same] at q; cases q; exact h
  · rw [upd_ne hb] at q; exact e b x q
theorem set_get {α : Type} {l : List α} {i : Nat} {x y : α} (h : l[i]? = some x) (j : Nat) : (l.set i y)[j]? = if j = i then some y else l[j]? := by
  by_cases e : j = i
  · subst e
    rw [if_pos rfl, List.getElem?_set_self (List.getElem?_eq_some_iff.mp h).1]
  · rw [if_neg e, List.getElem?_set_ne (fun z => e z.symm)]
section
variable {K : PySem.W.Frag} {B : Bs} {S S' H H' : Hp} {σ : L2.St} {γ : List Sl} {p : Addr} {o : HO} {φ : Nat → Hp}
theorem SlF.mono {F : Hp} {o : Option (Option V)} {s : Sl} (h : SlF K B S F o s) (e : Same S S') : SlF K B S' F o s := by
  cases s with
  | any => trivial
  | val d => obtain ⟨v, e1, e2⟩ := h; exact ⟨v, e1, e2.mono e⟩
  | own m ds =>
    obtain ⟨p, xs, f1, f2, f3, f4⟩ := h
    refine ⟨p, xs, f1, f2, ?_, f4⟩
    cases m with
    | true => exact f3
    | false => exact DenL.mono f3 e
  | scr ns => obtain ⟨a, e1, e2⟩ := h; exact ⟨a, e1, e.seq e2⟩
  | ins m C fs => obtain ⟨p, dx, vs, f1, f2, f3, f4⟩ := h; exact ⟨p, dx, vs, f1, f2, f3.mono e, f4⟩
  | hp m L => exact ⟨h.1, fun p => (h.2 p).mono e⟩
theorem Rel0.same (R : Rel0 K B S H σ γ) : Same S H := let ⟨_, r⟩ := R; r.same
theorem Rel0.keep (R : Rel0 K B S H σ γ) : ∀ a o, B.H0 a = some o → a ∉ B.mu → H a = some o := let ⟨_, r⟩ := R; r.keep
theorem Rel0.muk (R : Rel0 K B S H σ γ) : ∀ a, a ∈ B.mu → B.S0 a = none ∧ (∃ o, B.H0 a = some o) ∧ ∃ o, H a = some o := let ⟨_, r⟩ := R; r.muk
theorem Rel0.grow (R : Rel0 K B S H σ γ) : Same B.S0 S := let ⟨_, r⟩ := R; r.grow
theorem Rel0.ext (R : Rel0 K B S H σ γ) : ∀ a o, S a = some o → B.S0 a = some o ∨ B.H0 a = none := let ⟨_, r⟩ := R; r.ext
theorem Rel0.len (R : Rel0 K B S H σ γ) : σ.length = γ.length := let ⟨_, r⟩ := R; r.len
theorem Rel0.sl (R : Rel0 K B S H σ γ) (i : Nat) (s : Sl) (h : γ[i]? = some s) : SlOk K B S H σ[i]? s := by
  obtain ⟨φ, r⟩ := R
  have q := r.sl i s h
  cases s with
  | any => trivial
  | val d => exact q
  | own m ds =>
    obtain ⟨p, xs, f1, f2, f3, f4⟩ := q
    refine ⟨p, xs, f1, r.phS i _ _ f2, r.phH i _ _ f2, ?_, fun hm => ⟨f4 hm, ?_⟩⟩
    · cases m with
      | true => exact DenL.mono f3 (r.spS.trans r.grow)
      | false => exact f3
    · subst hm; exact f3
  | scr ns => exact q
  | ins m C fs => obtain ⟨p, dx, vs, f1, f2, f3, f4⟩ := q; exact ⟨p, dx, vs, f1, r.phS i _ _ f2, r.phH i _ _ f2, f3, f4⟩
  | hp m L =>
    intro p b hb
    have k := q.2 p
    rw [hb] at k
    cases hF : φ i p with
    | none => rw [hF] at k; exact k.elim
    | some o => rw [hF] at k; exact ⟨r.phS i _ _ hF, by rw [r.phH i _ _ hF]; exact k⟩
theorem RelF.fresh0 (r : RelF K B S H σ γ φ) (h : H p = none) : B.H0 p = none := by
  cases e : B.H0 p with
  | none => rfl
  | some o =>
    by_cases hm : p ∈ B.mu
    · obtain ⟨_, _, xs, e2⟩ := r.muk p hm
      rw [h] at e2; cases e2
    · rw [r.keep p o e hm] at h; cases h
theorem Rel0.fresh0 (R : Rel0 K B S H σ γ) (h : H p = none) : B.H0 p = none := let ⟨_, r⟩ := R; r.fresh0 h
theorem Rel0.freshS (R : Rel0 K B S H σ γ) (h : H p = none) : S p = none := R.same.free h
theorem RelF.freshP (r : RelF K B S H σ γ φ) (h : H p = none) (i : Nat) : φ i p = none := by
  cases e : φ i p with
  | none => rfl
  | some o => rw [r.phH i _ _ e] at h; cases h
theorem RelF.freshF (r : RelF K B S H σ γ φ) (h : H p = none) : p ∉ B.fr.map (·.1) := fun hm => by
  obtain ⟨⟨q, u⟩, hq, e⟩ := List.mem_map.mp hm
  have e : q = p := e
  subst e
  rw [(r.frm _ _ hq).1] at h; cases h
/-- a new stable object -/
theorem Rel0.new (R : Rel0 K B S H σ γ) (h : H p = none) : Rel0 K B (upd S p o) (upd H p o) σ γ := by
  obtain ⟨φ, r⟩ := R
  have eS : Same S (L2.upd S p o) := Same.upd (Same.refl S) (r.same.free h)
  have eH : Same H (L2.upd H p o) := Same.upd (Same.refl H) h
  have ne : ∀ {i a u}, φ i a = some u → a ≠ p := fun {i a u} e => ne_of_none (r.phH i _ _ e) h
  refine ⟨φ, Same.updB r.same, fun a x e hm => eH _ _ (r.keep a x e hm), fun a ha => ?_, fun a x e => eS _ _ (r.grow a x e), fun a x e => ?_, r.len, fun i s e => (r.sl i s e).mono eS, fun i a x e => eH _ _ (r.phH i a x e), fun i a x e => by rw [upd_ne (ne e)]; exact r.phS i a x e, r.phD, r.phO, fun a u hu => ?_, r.frn, r.spS⟩
  · obtain ⟨h1, h2, xs, h3⟩ := r.muk a ha
    exact ⟨h1, h2, xs, eH _ _ h3⟩
  · by_cases ha : a = p
    · subst ha; exact .inr (r.fresh0 h)
    · rw [upd_ne ha] at e; exact r.ext a x e
  · obtain ⟨h1, h2, h3⟩ := r.frm a u hu
    exact ⟨eH _ _ h1, by rw [upd_ne (ne_of_none h1 h)]; exact h2, h3⟩
/-- a new object, kept aside -/
theorem Rel0.newF (R : Rel0 K B S H σ γ) (h : H p = none) : Rel0 K (B.fram p o) S (upd H p o) σ γ := by
  obtain ⟨φ, r⟩ := R
  have eH : Same H (L2.upd H p o) := Same.upd (Same.refl H) h
  refine ⟨φ, Same.upd r.same h, fun a x e hm => eH _ _ (r.keep a x e hm), fun a ha => ?_, r.grow, r.ext, r.len, r.sl, fun i a x e => eH _ _ (r.phH i a x e), r.phS, r.phD, r.phO, fun a u hu => ?_, ?_, r.spS⟩
  · obtain ⟨h1, h2, xs, h3⟩ := r.muk a ha
    exact ⟨h1, h2, xs, eH _ _ h3⟩
  · rcases List.mem_cons.mp hu with z | z
    · cases z; exact ⟨upd_same, r.same.free h, r.fresh0 h, r.freshP h⟩
    · obtain ⟨h1, h2, h3⟩ := r.frm a u z
      exact ⟨eH _ _ h1, h2, h3⟩
  · show ((p, o) :: B.fr |>.map (·.1)).Nodup
    rw [List.map_cons]
    exact List.nodup_cons.mpr ⟨r.freshF h, r.frn⟩
/-- a thing kept aside: what is known of it -/
theorem Rel0.unfram (R : Rel0 K (B.fram p o) S H σ γ) : Rel0 K B S H σ γ ∧ H p = some o ∧ S p = none ∧ B.H0 p = none := by
  obtain ⟨φ, r⟩ := R
  have q := r.frm p o (List.mem_cons_self ..)
  have n : ((p, o) :: B.fr |>.map (·.1)).Nodup := r.frn
  rw [List.map_cons] at n
  exact ⟨⟨φ, r.same, r.keep, r.muk, r.grow, r.ext, r.len, r.sl, r.phH, r.phS, r.phD, r.phO, fun q u hq => r.frm q u (List.mem_cons_of_mem _ hq), (List.nodup_cons.mp n).2, r.spS⟩, q.1, q.2.1, q.2.2.1⟩
/-- a thing kept aside becomes stable -/
theorem Rel0.frzF (R : Rel0 K (B.fram p o) S H σ γ) : Rel0 K B (upd S p o) H σ γ := by
  obtain ⟨φ, r⟩ := R
  obtain ⟨h1, h2, h3, h4⟩ := r.frm p o (List.mem_cons_self ..)
  have n : ((p, o) :: B.fr |>.map (·.1)).Nodup := r.frn
  rw [List.map_cons] at n
  have eS : Same S (L2.upd S p o) := Same.upd (Same.refl S) h2
  refine ⟨φ, Same.updL r.same h1, r.keep, r.muk, fun a x e => eS _ _ (r.grow a x e), fun a x e => ?_, r.len, fun i s e => (r.sl i s e).mono eS, r.phH, fun i a x e => ?_, r.phD, r.phO, fun a u hu => ?_, (List.nodup_cons.mp n).2, r.spS⟩
  · by_cases ha : a = p
    · subst ha; exact .inr h3
    · rw [upd_ne ha] at e; exact r.ext a x e
  · rw [upd_ne (fun z => by subst z; rw [h4 i] at e; cases e)]
    exact r.phS i a x e
  · obtain ⟨k1, k2, k3⟩ := r.frm a u (List.mem_cons_of_mem _ hu)
    refine ⟨k1, ?_, k3⟩
    rw [upd_ne (fun z => (List.nodup_cons.mp n).1 (by subst z; exact List.mem_map.mpr ⟨_, hu, rfl⟩))]
    exact k2
/-- a thing kept aside is changed -/
theorem Rel0.chgF {u : HO} (R : Rel0 K (B.fram p o) S H σ γ) : Rel0 K (B.fram p u) S (L2.upd H p u) σ γ := by
  obtain ⟨φ, r⟩ := R
  obtain ⟨h1, h2, h3, h4⟩ := r.frm p o (List.mem_cons_self ..)
  have n : ((p, o) :: B.fr |>.map (·.1)).Nodup := r.frn
  rw [List.map_cons] at n
  refine ⟨φ, Same.updS r.same h2, fun a x e hm => ?_, fun a ha => ?_, r.grow, r.ext, r.len, r.sl, fun i a x e => ?_, r.phS, r.phD, r.phO, fun a v hv => ?_, ?_, r.spS⟩
  · rw [upd_ne (ne_of_none e h3)]; exact r.keep a x e hm
  · obtain ⟨k1, ⟨x, k2⟩, y, k3⟩ := r.muk a ha
    exact ⟨k1, ⟨x, k2⟩, y, by rw [upd_ne (ne_of_none k2 h3)]; exact k3⟩
  · rw [upd_ne (fun z => by subst z; rw [h4 i] at e; cases e)]
    exact r.phH i a x e
  · rcases List.mem_cons.mp hv with z | z
    · cases z; exact ⟨upd_same, h2, h3, h4⟩
    · obtain ⟨k1, k2, k3⟩ := r.frm a v (List.mem_cons_of_mem _ z)
      refine ⟨?_, k2, k3⟩
      rw [upd_ne (fun w => (List.nodup_cons.mp n).1 (by subst w; exact List.mem_map.mpr ⟨_, z, rfl⟩))]
      exact k1
  · show ((p, u) :: B.fr |>.map (·.1)).Nodup
    rw [List.map_cons]
    exact n
/-- a slot is set to something that holds nothing of its own -/
theorem Rel0.set (R : Rel0 K B S H σ γ) {i : Nat} {v : V} {s : Sl} (hs : SlOk K B S H (some (some v)) s) (hn : s.may = none) : Rel0 K B S H (σ.set i (some v)) (γ.set i s) := by
  by_cases hi : i < γ.length
  case neg =>
    have hl := R.len
    rw [List.set_eq_of_length_le (l := γ) (by omega), List.set_eq_of_length_le (l := σ) (by omega)]
    exact R
  obtain ⟨φ, r⟩ := R
  have e0 : γ[i]? = some γ[i] := List.getElem?_eq_getElem hi
  have f0 : σ[i]? = some (σ[i]'(by rw [r.len]; exact hi)) := List.getElem?_eq_getElem (by rw [r.len]; exact hi)
  have em : ∀ {j a u}, (if j = i then emptyH else φ j) a = some u → j ≠ i ∧ φ j a = some u := fun {j a u} e => by
    by_cases hj : j = i
    · rw [if_pos hj] at e; cases e
    · rw [if_neg hj] at e; exact ⟨hj, e⟩
  refine ⟨fun j => if j = i then emptyH else φ j, r.same, r.keep, r.muk, r.grow, r.ext, by rw [List.length_set, List.length_set, r.len], fun j t e => ?_, fun j a u e => r.phH j a u (em e).2, fun j a u e => r.phS j a u (em e).2, fun j k a u v hjk e1 e2 => r.phD j k a u v hjk (em e1).2 (em e2).2, fun j a u e => ?_, fun q u hq => ?_, r.frn, r.spS⟩
  · rw [set_get e0] at e
    rw [set_get f0]
    by_cases hj : j = i
    · rw [if_pos hj] at e
      cases e
      rw [if_pos hj, if_pos hj]
      cases s with
      | any => trivial
      | val d => exact hs
      | scr ns => exact hs
      | own m ds => cases hn
      | ins m C fs => cases hn
      | hp m L => cases hn
    · rw [if_neg hj] at e
      rw [if_neg hj, if_neg hj]
      exact r.sl j t e
  · obtain ⟨h1, h2⟩ := em e
    rw [List.getElem?_set_ne (fun z => h1 z.symm)]
    exact r.phO j a u h2
  · obtain ⟨k1, k2, k3, k4⟩ := r.frm q u hq
    refine ⟨k1, k2, k3, fun j => ?_⟩
    show (if j = i then emptyH else φ j) q = none
    by_cases hj : j = i
    · rw [if_pos hj]; rfl
    · rw [if_neg hj]; exact k4 j
/-- what is kept aside becomes a slot's own -/
theorem Rel0.setF (R : Rel0 K (B.fram p o) S H σ γ) {i : Nat} {s : Sl} (hs : SlF K B S (upd emptyH p o) (some (some (.ref p))) s) (hm : s.may = some false) : Rel0 K B S H (σ.set i (some (.ref p))) (γ.set i s) := by
  by_cases hi : i < γ.length
  case neg =>
    have hl := R.len
    rw [List.set_eq_of_length_le (l := γ) (by omega), List.set_eq_of_length_le (l := σ) (by omega)]
    exact R.unfram.1
  obtain ⟨φ, r⟩ := R
  obtain ⟨h1, h2, h3, h4⟩ := r.frm p o (List.mem_cons_self ..)
  have n : ((p, o) :: B.fr |>.map (·.1)).Nodup := r.frn
  rw [List.map_cons] at n
  have e0 : γ[i]? = some γ[i] := List.getElem?_eq_getElem hi
  have f0 : σ[i]? = some (σ[i]'(by rw [r.len]; exact hi)) := List.getElem?_eq_getElem (by rw [r.len]; exact hi)
  have em : ∀ {j a u}, (if j = i then L2.upd emptyH p o else φ j) a = some u → (j = i ∧ a = p ∧ u = o) ∨ (j ≠ i ∧ φ j a = some u) := fun {j a u} e => by
    by_cases hj : j = i
    · rw [if_pos hj] at e
      by_cases ha : a = p
      · subst ha; rw [upd_same] at e; cases e; exact .inl ⟨hj, rfl, rfl⟩
      · rw [upd_ne ha] at e; cases e
    · rw [if_neg hj] at e; exact .inr ⟨hj, e⟩
  refine ⟨fun j => if j = i then L2.upd emptyH p o else φ j, r.same, r.keep, r.muk, r.grow, r.ext, by rw [List.length_set, List.length_set, r.len], fun j t e => ?_, fun j a u e => ?_, fun j a u e => ?_, fun j k a u v hjk e1 e2 => ?_, fun j a u e => ?_, fun q u hq => ?_, (List.nodup_cons.mp n).2, r.spS⟩
  · rw [set_get e0] at e
    rw [set_get f0]
    by_cases hj : j = i
    · rw [if_pos hj] at e
      cases e
      rw [if_pos hj, if_pos hj]
      exact hs
    · rw [if_neg hj] at e
      rw [if_neg hj, if_neg hj]
      exact r.sl j t e
  · rcases em e with ⟨_, z, z'⟩ | ⟨_, z⟩
    · subst z z'; exact h1
    · exact r.phH j a u z
  · rcases em e with ⟨_, z, z'⟩ | ⟨_, z⟩
    · subst z; exact h2
    · exact r.phS j a u z
  · rcases em e1 with ⟨z1, z2, _⟩ | ⟨z1, z2⟩
    · rcases em e2 with ⟨y1, _, _⟩ | ⟨y1, y2⟩
      · exact hjk (z1.trans y1.symm)
      · subst z2; rw [h4 k] at y2; cases y2
    · rcases em e2 with ⟨y1, y2, _⟩ | ⟨y1, y2⟩
      · subst y2; rw [h4 j] at z2; cases z2
      · exact r.phD j k a u v hjk z2 y2
  · rcases em e with ⟨z1, z2, _⟩ | ⟨z1, z2⟩
    · rw [z1, List.getElem?_set_self hi, z2]
      exact ⟨s, false, rfl, hm, .inr h3⟩
    · rw [List.getElem?_set_ne (fun z => z1 z.symm)]
      exact r.phO j a u z2
  · obtain ⟨k1, k2, k3, k4⟩ := r.frm q u (List.mem_cons_of_mem _ hq)
    refine ⟨k1, k2, k3, fun j => ?_⟩
    show (if j = i then L2.upd emptyH p o else φ j) q = none
    by_cases hj : j = i
    · rw [if_pos hj, upd_ne (fun z => (List.nodup_cons.mp n).1 (by subst z; exact List.mem_map.mpr ⟨_, hq, rfl⟩))]; rfl
    · rw [if_neg hj]; exact k4 j
/-- a slot is set to a new list of one's own -/
theorem Rel0.setOwn {xs : List V} (R : Rel0 K (B.fram p (.lst xs)) S H σ γ) {i : Nat} {ds : List D} (h : DenL S xs ds) : Rel0 K B S H (σ.set i (some (.ref p))) (γ.set i (.own false ds)) :=
  R.setF (s := .own false ds) ⟨p, xs, rfl, upd_same, h, fun z => by cases z⟩ rfl
/-- the thing at the root of slot i is changed -/
theorem RelF.chg1 (r : RelF K B S H σ γ φ) {i : Nat} {s t : Sl} {u : HO} (hg : γ[i]? = some s) (hp : φ i p = some u) (ht : SlF K B S (L2.upd emptyH p o) σ[i]? t) (hm : t.may = s.may) (ha : ∀ i a, s.at_ B i a → t.at_ B i a) : Rel0 K B S (upd H p o) σ (γ.set i t) := by
  have hS := r.phS i _ _ hp
  have hO := r.phO i _ _ hp
  have em : ∀ {j a u}, (if j = i then L2.upd emptyH p o else φ j) a = some u → (j = i ∧ a = p ∧ u = o) ∨ (j ≠ i ∧ φ j a = some u ∧ a ≠ p) := fun {j a v} e => by
    by_cases hj : j = i
    · rw [if_pos hj] at e
      by_cases ha : a = p
      · subst ha; rw [upd_same] at e; cases e; exact .inl ⟨hj, rfl, rfl⟩
      · rw [upd_ne ha] at e; cases e
    · rw [if_neg hj] at e; exact .inr ⟨hj, e, fun z => by subst z; exact r.phD j i _ _ _ hj e hp⟩
  refine ⟨fun j => if j = i then L2.upd emptyH p o else φ j, Same.updS r.same hS, fun a x e hm => ?_, fun a ha => ?_, r.grow, r.ext, by rw [List.length_set]; exact r.len, fun j t' e => ?_, fun j a v e => ?_, fun j a v e => ?_, fun j k a v w hjk e1 e2 => ?_, fun j a v e => ?_, fun q v hq => ?_, r.frn, r.spS⟩
  · rw [upd_ne (fun z => ?_)]
    · exact r.keep a x e hm
    · subst z
      obtain ⟨s', m, _, _, h | h⟩ := hO
      · exact hm (Sl.at_mem h.2)
      · rw [e] at h; cases h
  · obtain ⟨k1, k2, x, k3⟩ := r.muk a ha
    by_cases hap : a = p
    · subst hap; exact ⟨k1, k2, _, upd_same⟩
    · exact ⟨k1, k2, x, by rw [upd_ne hap]; exact k3⟩
  · rw [set_get hg] at e
    by_cases hj : j = i
    · rw [if_pos hj] at e
      cases e
      show SlF K B S (if j = i then L2.upd emptyH p o else φ j) _ _
      rw [if_pos hj, hj]
      exact ht
    · rw [if_neg hj] at e
      show SlF K B S (if j = i then L2.upd emptyH p o else φ j) _ _
      rw [if_neg hj]
      exact r.sl j t' e
  · rcases em e with ⟨_, z, z'⟩ | ⟨_, z, z'⟩
    · subst z z'; exact upd_same
    · rw [upd_ne z']; exact r.phH j a v z
  · rcases em e with ⟨_, z, z'⟩ | ⟨_, z, z'⟩
    · subst z; exact hS
    · exact r.phS j a v z
  · rcases em e1 with ⟨z1, z2, _⟩ | ⟨z1, z2, z3⟩
    · rcases em e2 with ⟨y1, _, _⟩ | ⟨y1, y2, y3⟩
      · exact hjk (z1.trans y1.symm)
      · exact y3 z2
    · rcases em e2 with ⟨y1, y2, _⟩ | ⟨y1, y2, _⟩
      · exact z3 y2
      · exact r.phD j k a v w hjk z2 y2
  · rcases em e with ⟨z1, z2, _⟩ | ⟨z1, z2, _⟩
    · rw [z1, set_get hg, if_pos rfl, z2]
      obtain ⟨s', m, e1, e2, e3⟩ := hO
      rw [hg] at e1
      cases e1
      exact ⟨t, m, rfl, hm.trans e2, e3.imp (fun z => ⟨z.1, ha _ _ z.2⟩) id⟩
    · rw [List.getElem?_set_ne (fun z => z1 z.symm)]
      exact r.phO j a v z2
  · obtain ⟨k1, k2, k3, k4⟩ := r.frm q v hq
    have nq : q ≠ p := fun z => by subst z; rw [k4 i] at hp; cases hp
    refine ⟨by rw [upd_ne nq]; exact k1, k2, k3, fun j => ?_⟩
    show (if j = i then L2.upd emptyH p o else φ j) q = none
    by_cases hj : j = i
    · rw [if_pos hj, upd_ne nq]; rfl
    · rw [if_neg hj]; exact k4 j
/-- a list of one's own is changed -/
theorem Rel0.chg (R : Rel0 K B S H σ γ) {i : Nat} {m : Bool} {xs' : List V} {ds ds' : List D} (hg : γ[i]? = some (.own m ds)) (hσ : σ[i]? = some (some (.ref p))) (hd : DenL (if m = true then B.SP else S) xs' ds') : Rel0 K B S (upd H p (.lst xs')) σ (γ.set i (.own m ds')) := by
  obtain ⟨φ, r⟩ := R
  obtain ⟨q, ys, e1, e2, e3, e4⟩ := r.sl i _ hg
  rw [hσ] at e1
  cases e1
  exact r.chg1 hg e2 ⟨p, xs', hσ, upd_same, hd, e4⟩ rfl (fun _ _ h => h)
/-- an instance of one's own is changed -/
theorem Rel0.chgI (R : Rel0 K B S H σ γ) {i : Nat} {m : Bool} {C dx : Addr} {vs vs' : List (Str × V)} {fs fs' : List (Str × D)} (hg : γ[i]? = some (.ins m C fs)) (hσ : σ[i]? = some (some (.ref p))) (hd : DenF S vs' fs') : Rel0 K B S (upd H p (.ins C dx vs')) σ (γ.set i (.ins m C fs')) := by
  obtain ⟨φ, r⟩ := R
  obtain ⟨q, dx', ys, e1, e2, e3, e4⟩ := r.sl i _ hg
  rw [hσ] at e1
  cases e1
  exact r.chg1 hg e2 ⟨p, dx, vs', hσ, upd_same, hd, e4⟩ rfl (fun _ _ h => h)
theorem Rel0.lt (_ : Rel0 K B S H σ γ) {i : Nat} {s : Sl} (h : γ[i]? = some s) : i < γ.length := (List.getElem?_eq_some_iff.mp h).1
/-- a slot's part is let go -/
theorem RelF.let_ (r : RelF K B S H σ γ φ) {i : Nat} {s : Sl} (hs : SlOk K B S H σ[i]? s) (hn : s.may = none) : RelF K B S H σ (γ.set i s) (fun j => if j = i then emptyH else φ j) := by
  have em : ∀ {j a u}, (if j = i then emptyH else φ j) a = some u → j ≠ i ∧ φ j a = some u := fun {j a u} e => by
    by_cases hj : j = i
    · rw [if_pos hj] at e; cases e
    · rw [if_neg hj] at e; exact ⟨hj, e⟩
  refine ⟨r.same, r.keep, r.muk, r.grow, r.ext, by rw [List.length_set]; exact r.len, fun j t e => ?_, fun j a u e => r.phH j a u (em e).2, fun j a u e => r.phS j a u (em e).2, fun j k a u v hjk e1 e2 => r.phD j k a u v hjk (em e1).2 (em e2).2, fun j a u e => ?_, fun q u hq => ?_, r.frn, r.spS⟩
  · by_cases hj : j = i
    · subst hj
      by_cases hl : j < γ.length
      · rw [List.getElem?_set_self hl] at e
        cases e
        cases s with
        | any => trivial
        | val d => exact hs
        | scr ns => exact hs
        | own m ds => cases hn
        | ins m C fs => cases hn
        | hp m L => cases hn
      · rw [List.getElem?_eq_none (by rw [List.length_set]; omega)] at e
        cases e
    · rw [List.getElem?_set_ne (fun z => hj z.symm)] at e
      show SlF K B S (if j = i then emptyH else φ j) _ _
      rw [if_neg hj]
      exact r.sl j t e
  · obtain ⟨h1, h2⟩ := em e
    rw [List.getElem?_set_ne (fun z => h1 z.symm)]
    exact r.phO j a u h2
  · obtain ⟨k1, k2, k3, k4⟩ := r.frm q u hq
    refine ⟨k1, k2, k3, fun j => ?_⟩
    show (if j = i then emptyH else φ j) q = none
    by_cases hj : j = i
    · rw [if_pos hj]; rfl
    · rw [if_neg hj]; exact k4 j
/-- a slot is forgotten -/
theorem Rel0.drop (R : Rel0 K B S H σ γ) {i : Nat} : Rel0 K B S H σ (γ.set i .any) := let ⟨_, r⟩ := R; ⟨_, r.let_ (s := .any) trivial rfl⟩
/-- a slot's value is known -/
theorem Rel0.know (R : Rel0 K B S H σ γ) {i : Nat} {s : Sl} (hs : SlOk K B S H σ[i]? s) (hn : s.may = none) : Rel0 K B S H σ (γ.set i s) := let ⟨_, r⟩ := R; ⟨_, r.let_ hs hn⟩
/-- what is slot i's own, at its root, is kept aside -/
theorem RelF.take1 (r : RelF K B S H σ γ φ) {i : Nat} {s : Sl} (hg : γ[i]? = some s) (hp : φ i p = some o) (hm : s.may = some false) : Rel0 K (B.fram p o) S H σ (γ.set i .any) := by
  have r2 := r.let_ (i := i) (s := .any) trivial rfl
  have h0 : B.H0 p = none := by
    obtain ⟨s', m, e1, e2, h | h⟩ := r.phO i _ _ hp
    · rw [hg] at e1; cases e1
      rw [hm] at e2; cases e2
      exact absurd h.1 (by decide)
    · exact h
  refine ⟨_, r2.same, r2.keep, r2.muk, r2.grow, r2.ext, r2.len, r2.sl, r2.phH, r2.phS, r2.phD, r2.phO, fun q u hq => ?_, ?_, r2.spS⟩
  · rcases List.mem_cons.mp hq with z | z
    · cases z
      refine ⟨r.phH i _ _ hp, r.phS i _ _ hp, h0, fun j => ?_⟩
      show (if j = i then emptyH else φ j) p = none
      by_cases hj : j = i
      · rw [if_pos hj]; rfl
      · rw [if_neg hj]
        cases e : φ j p with
        | none => rfl
        | some v => exact (r.phD j i _ _ _ hj e hp).elim
    · exact r2.frm q u z
  · show ((p, o) :: B.fr |>.map (·.1)).Nodup
    rw [List.map_cons]
    refine List.nodup_cons.mpr ⟨fun z => ?_, r.frn⟩
    obtain ⟨⟨q, u⟩, hq, e⟩ := List.mem_map.mp z
    have e : q = p := e
    subst e
    rw [(r.frm _ _ hq).2.2.2 i] at hp
    cases hp
theorem Rel0.takeOwn (R : Rel0 K B S H σ γ) {i : Nat} {ds : List D} (hg : γ[i]? = some (.own false ds)) : ∃ p xs, σ[i]? = some (some (.ref p)) ∧ DenL S xs ds ∧ Rel0 K (B.fram p (.lst xs)) S H σ (γ.set i .any) := by
  obtain ⟨φ, r⟩ := R
  obtain ⟨q, ys, e1, e2, e3, e4⟩ := r.sl i _ hg
  exact ⟨q, ys, e1, e3, r.take1 hg e2 rfl⟩
/-- a list of one's own becomes a value -/
theorem Rel0.val (R : Rel0 K B S H σ γ) {i : Nat} {ds : List D} (hg : γ[i]? = some (.own false ds)) : ∃ S' p, σ[i]? = some (some (.ref p)) ∧ Same S S' ∧ Rel0 K B S' H σ (γ.set i (.val (.lst ds))) ∧ Den S' (.ref p) (.lst ds) := by
  obtain ⟨p, xs, e1, e2, R1⟩ := R.takeOwn hg
  have hS : Same S (upd S p (.lst xs)) := Same.upd (Same.refl S) R1.unfram.2.2.1
  have dn : Den (upd S p (.lst xs)) (.ref p) (.lst ds) := .ofL upd_same (e2.mono hS)
  have R2 := R1.frzF.know (i := i) (s := .val (.lst ds)) ⟨_, e1, dn⟩ rfl
  rw [List.set_set] at R2
  exact ⟨_, p, e1, hS, R2, dn⟩
/-- no slots -/
theorem Rel0.nil (R : Rel0 K B S H σ γ) : Rel0 K B S H [] [] := by
  obtain ⟨φ, r⟩ := R
  exact ⟨fun _ => emptyH, r.same, r.keep, r.muk, r.grow, r.ext, rfl, fun i s e => (by simp at e), fun i a o e => (by cases e), fun i a o e => (by cases e), fun i j a o u _ e => (by cases e), fun i a o e => (by cases e), fun p o hp => (let ⟨k1, k2, k3, _⟩ := r.frm p o hp; ⟨k1, k2, k3, fun _ => rfl⟩), r.frn, r.spS⟩
/-- behind a call that changes nothing that stood -/
theorem RelF.call (r : RelF K B S H σ γ φ) (C : Rel0 K ⟨H, S, [], [], emptyH⟩ S' H' [] []) : RelF K B S' H' σ γ φ := by
  have hk : ∀ a o, H a = some o → H' a = some o := fun a o e => C.keep a o e (by intro z; cases z)
  have hS : ∀ a o, H a = some o → S a = none → S' a = none := fun a o e n => by
    cases q : S' a with
    | none => rfl
    | some u =>
      rcases C.ext a u q with z | z
      · have z' : S a = some u := z
        rw [n] at z'; cases z'
      · have z' : H a = none := z
        rw [e] at z'; cases z'
  refine ⟨C.same, fun a o e hm => hk a o (r.keep a o e hm), fun a ha => ?_, fun a o e => C.grow a o (r.grow a o e), fun a o e => ?_, r.len, fun i s e => (r.sl i s e).mono C.grow, fun i a o e => hk a o (r.phH i a o e), fun i a o e => hS a o (r.phH i a o e) (r.phS i a o e), r.phD, r.phO, fun p o hp => ?_, r.frn, r.spS⟩
  · obtain ⟨h1, h2, xs, h3⟩ := r.muk a ha
    exact ⟨h1, h2, xs, hk a _ h3⟩
  · rcases C.ext a o e with z | z
    · exact r.ext a o z
    · exact .inr (r.fresh0 z)
  · obtain ⟨h1, h2, h3⟩ := r.frm p o hp
    exact ⟨hk p o h1, hS p o h1 h2, h3⟩
theorem Rel0.call (R : Rel0 K B S H σ γ) (C : Rel0 K ⟨H, S, [], [], emptyH⟩ S' H' [] []) : Rel0 K B S' H' σ γ := let ⟨_, r⟩ := R; ⟨_, r.call C⟩
/-- the same behind a call: what it has made and hands out -/
theorem Rel0.callN (R : Rel0 K B S H σ γ) (C : Rel0 K ⟨H, S, [], [], emptyH⟩ S' H' [] []) (h0 : H p = none) (h1 : H' p = some o) (h2 : S' p = none) : Rel0 K (B.fram p o) S' H' σ γ := by
  obtain ⟨φ, r⟩ := R
  have r2 := r.call C
  refine ⟨φ, r2.same, r2.keep, r2.muk, r2.grow, r2.ext, r2.len, r2.sl, r2.phH, r2.phS, r2.phD, r2.phO, fun q u hq => ?_, ?_, r2.spS⟩
  · rcases List.mem_cons.mp hq with z | z
    · cases z; exact ⟨h1, h2, r.fresh0 h0, r.freshP h0⟩
    · exact r2.frm q u z
  · show ((p, o) :: B.fr |>.map (·.1)).Nodup
    rw [List.map_cons]
    exact List.nodup_cons.mpr ⟨r.freshF h0, r.frn⟩
/-- behind a call that may change the thing at slot i's root -/
theorem RelF.call1 (r : RelF K B S H σ γ φ) {i : Nat} {s t : Sl} {u : HO} (hg : γ[i]? = some s) (hp : φ i p = some u) {SP : Hp} (C : Rel0 K ⟨H, S, [p], [], SP⟩ S' H' [] []) (k1 : S' p = none) (k2 : H' p = some o) (ht : SlF K B S' (upd emptyH p o) σ[i]? t) (hm : t.may = s.may) (ha : ∀ i a, s.at_ B i a → t.at_ B i a) : RelF K B S' H' σ (γ.set i t) (fun j => if j = i then upd emptyH p o else φ j) := by
  have hO := r.phO i _ _ hp
  have hk : ∀ a o, H a = some o → a ≠ p → H' a = some o := fun a o e n => C.keep a o e (by intro z; exact n (List.mem_singleton.mp z))
  have hS : ∀ a o, H a = some o → S a = none → S' a = none := fun a o e n => by
    cases q : S' a with
    | none => rfl
    | some u =>
      rcases C.ext a u q with z | z
      · have z' : S a = some u := z
        rw [n] at z'; cases z'
      · have z' : H a = none := z
        rw [e] at z'; cases z'
  have em : ∀ {j a v}, (if j = i then L2.upd emptyH p o else φ j) a = some v → (j = i ∧ a = p ∧ v = o) ∨ (j ≠ i ∧ φ j a = some v ∧ a ≠ p) := fun {j a v} e => by
    by_cases hj : j = i
    · rw [if_pos hj] at e
      by_cases ha : a = p
      · subst ha; rw [upd_same] at e; cases e; exact .inl ⟨hj, rfl, rfl⟩
      · rw [upd_ne ha] at e; cases e
    · rw [if_neg hj] at e; exact .inr ⟨hj, e, fun z => by subst z; exact r.phD j i _ _ _ hj e hp⟩
  refine ⟨C.same, fun a x e hm => ?_, fun a ha => ?_, fun a x e => C.grow a x (r.grow a x e), fun a x e => ?_, by rw [List.length_set]; exact r.len, fun j t' e => ?_, fun j a v e => ?_, fun j a v e => ?_, fun j k a v w hjk e1 e2 => ?_, fun j a v e => ?_, fun q v hq => ?_, r.frn, r.spS⟩
  · refine hk a x (r.keep a x e hm) fun z => ?_
    subst z
    obtain ⟨s', m, _, _, h | h⟩ := hO
    · exact hm (Sl.at_mem h.2)
    · rw [e] at h; cases h
  · obtain ⟨f1, f2, x, f3⟩ := r.muk a ha
    by_cases hap : a = p
    · subst hap; exact ⟨f1, f2, _, k2⟩
    · exact ⟨f1, f2, x, hk a _ f3 hap⟩
  · rcases C.ext a x e with z | z
    · exact r.ext a x z
    · exact .inr (r.fresh0 z)
  · rw [set_get hg] at e
    by_cases hj : j = i
    · rw [if_pos hj] at e
      cases e
      show SlF K B S' (if j = i then L2.upd emptyH p o else φ j) _ _
      rw [if_pos hj, hj]
      exact ht
    · rw [if_neg hj] at e
      show SlF K B S' (if j = i then L2.upd emptyH p o else φ j) _ _
      rw [if_neg hj]
      exact (r.sl j t' e).mono C.grow
  · rcases em e with ⟨_, z, z'⟩ | ⟨_, z, z'⟩
    · subst z z'; exact k2
    · exact hk a v (r.phH j a v z) z'
  · rcases em e with ⟨_, z, z'⟩ | ⟨_, z, z'⟩
    · subst z; exact k1
    · exact hS a v (r.phH j a v z) (r.phS j a v z)
  · rcases em e1 with ⟨z1, z2, _⟩ | ⟨z1, z2, z3⟩
    · rcases em e2 with ⟨y1, _, _⟩ | ⟨y1, y2, y3⟩
      · exact hjk (z1.trans y1.symm)
      · exact y3 z2
    · rcases em e2 with ⟨y1, y2, _⟩ | ⟨y1, y2, _⟩
      · exact z3 y2
      · exact r.phD j k a v w hjk z2 y2
  · rcases em e with ⟨z1, z2, _⟩ | ⟨z1, z2, _⟩
    · rw [z1, set_get hg, if_pos rfl, z2]
      obtain ⟨s', m, e1, e2, e3⟩ := hO
      rw [hg] at e1
      cases e1
      exact ⟨t, m, rfl, hm.trans e2, e3.imp (fun z => ⟨z.1, ha _ _ z.2⟩) id⟩
    · rw [List.getElem?_set_ne (fun z => z1 z.symm)]
      exact r.phO j a v z2
  · obtain ⟨f1, f2, f3, f4⟩ := r.frm q v hq
    have nq : q ≠ p := fun z => by subst z; rw [f4 i] at hp; cases hp
    refine ⟨hk q v f1 nq, hS q v f1 f2, f3, fun j => ?_⟩
    show (if j = i then L2.upd emptyH p o else φ j) q = none
    by_cases hj : j = i
    · rw [if_pos hj, upd_ne nq]; rfl
    · rw [if_neg hj]; exact f4 j
theorem Rel0.callP {i : Nat} {m : Bool} {pl pl' : List D} {xs' : List V} (R : Rel0 K B S H σ γ) (hg : γ[i]? = some (.own m pl)) (hσ : σ[i]? = some (some (.ref p))) {SP : Hp} (C : Rel0 K ⟨H, S, [p], [], SP⟩ S' H' [] []) (k1 : S' p = none) (k2 : H' p = some (.lst xs')) (k3 : DenL (if m = true then B.SP else S') xs' pl') : Rel0 K B S' H' σ (γ.set i (.own m pl')) := by
  obtain ⟨φ, r⟩ := R
  obtain ⟨q, ys, e1, e2, e3, e4⟩ := r.sl i _ hg
  rw [hσ] at e1
  cases e1
  exact ⟨_, r.call1 hg e2 C k1 k2 ⟨p, xs', hσ, upd_same, k3, e4⟩ rfl (fun _ _ h => h)⟩
/-- a thing that such a call has made, kept aside -/
theorem Rel0.callPN {i : Nat} {m : Bool} {a : Addr} {pl pl' : List D} {xs' : List V} (R : Rel0 K B S H σ γ) (hg : γ[i]? = some (.own m pl)) (hσ : σ[i]? = some (some (.ref p))) {SP : Hp} (C : Rel0 K ⟨H, S, [p], [], SP⟩ S' H' [] []) (k1 : S' p = none) (k2 : H' p = some (.lst xs')) (k3 : DenL (if m = true then B.SP else S') xs' pl') (l2 : H a = none) (l3 : H' a = some o) (l1 : S' a = none) : Rel0 K (B.fram a o) S' H' σ (γ.set i (.own m pl')) := by
  obtain ⟨φ, r⟩ := R
  obtain ⟨q, ys, e1, e2, e3, e4⟩ := r.sl i _ hg
  rw [hσ] at e1
  cases e1
  have r2 := r.call1 (t := .own m pl') hg e2 C k1 k2 ⟨p, xs', hσ, upd_same, k3, e4⟩ rfl (fun _ _ h => h)
  have na : a ≠ p := (ne_of_none (r.phH i _ _ e2) l2).symm
  refine ⟨_, r2.same, r2.keep, r2.muk, r2.grow, r2.ext, r2.len, r2.sl, r2.phH, r2.phS, r2.phD, r2.phO, fun q u hq => ?_, ?_, r2.spS⟩
  · rcases List.mem_cons.mp hq with z | z
    · cases z
      refine ⟨l3, l1, r.fresh0 l2, fun j => ?_⟩
      show (if j = i then L2.upd emptyH p _ else φ j) a = none
      by_cases hj : j = i
      · rw [if_pos hj, upd_ne na]; rfl
      · rw [if_neg hj]; exact r.freshP l2 j
    · exact r2.frm q u z
  · show ((a, o) :: B.fr |>.map (·.1)).Nodup
    rw [List.map_cons]
    exact List.nodup_cons.mpr ⟨r.freshF l2, r.frn⟩
end
end DL
set_option Elab.async false
set_option linter.all false
set_option autoImplicit false
set_option maxRecDepth 100000
set_option maxHeartbeats 4000000
/-! DL1b: the relation with what is wanted of an exception. -/
namespace DL
open PySem PySem.Spec PyProof.Rows L2

/-- a context with what is wanted of an exception that leaves the code: over the heap (W), over data (dX: the class, the fields) -/
structure Xb where
  c : Cx
  W : WX := fun _ _ _ _ => False
  dX : Addr → List (Str × D) → List Sl → Prop := fun _ _ _ => False
instance : CoeOut Xb Cx := ⟨Xb.c⟩
namespace Xb
abbrev prog (X : Xb) := X.c.prog
abbrev w (X : Xb) := X.c.w
abbrev K (X : Xb) := X.c.K
abbrev mg (X : Xb) := X.c.mg
abbrev base (X : Xb) := X.c.base
abbrev A (X : Xb) := X.c.A
abbrev N (X : Xb) := X.c.N
abbrev s_0 (X : Xb) := X.c.s_0
abbrev H_0 (X : Xb) := X.c.H_0
abbrev env (X : Xb) := X.c.env
abbrev outer (X : Xb) := X.c.outer
abbrev stack (X : Xb) := X.c.stack
abbrev ex (X : Xb) := X.c.ex
abbrev fn (X : Xb) := X.c.fn
abbrev calm (X : Xb) := X.c.calm
abbrev pn (X : Xb) := X.c.pn
abbrev xe (X : Xb) := X.c.xe
abbrev fs (X : Xb) := X.c.fs
/-- nothing may be raised -/
abbrev noX (X : Xb) : Xb := ⟨X.c, X.W, fun _ _ _ => False⟩
end Xb
/-- the fields of an exception -/
def ExD (S : Hp) (d : Option Addr) (fs : List (Str × D)) : Prop := (d = none ∧ fs = []) ∨ ∃ dd ws, d = some dd ∧ S dd = some (.xd ws) ∧ ∀ f x, fs.lookup f = some x → ∃ v, ws.lookup f = some v ∧ Den S v x
theorem ExD.mono {S S' : Hp} {d : Option Addr} {fs : List (Str × D)} (h : ExD S d fs) (e : Same S S') : ExD S' d fs := by
  rcases h with h | ⟨dd, ws, h1, h2, h3⟩
  · exact .inl h
  · exact .inr ⟨dd, ws, h1, e _ _ h2, fun f x hx => let ⟨v, h4, h5⟩ := h3 f x hx; ⟨v, h4, h5.mono e⟩⟩
/-- the entry without what is kept aside -/
def Bs.core (B : Bs) : Bs := { B with fr := [] }
def XLk (X : Xb) (B : Bs) (S : Hp) : Prop := ∀ S' H' σ' γ' C fs d, Same S S' → Rel0 X.K B.core S' H' σ' γ' → ExD S' d fs → X.dX C fs γ' → X.W (.ref C) d σ' H'
structure Rel (X : Xb) (B : Bs) (S H : Hp) (σ : L2.St) (γ : List Sl) : Prop where
  r : Rel0 X.K B S H σ γ
  x : XLk X B S
section
variable {X : Xb} {B : Bs} {S S' H H' : Hp} {σ : L2.St} {γ : List Sl} {p : Addr} {o : HO}
theorem XLk.mono (h : XLk X B S) (e : Same S S') : XLk X B S' := fun S1 H' σ' γ' C fs d e1 => h S1 H' σ' γ' C fs d (e.trans e1)
theorem XLk.no {X : Xb} : XLk X.noX B S := fun _ _ _ _ _ _ _ _ _ _ h => h.elim
theorem Rel0.no {X : Xb} (R : Rel0 X.K B S H σ γ) : Rel X.noX B S H σ γ := ⟨R, .no⟩
theorem Rel0.core {K : PySem.W.Frag} (R : Rel0 K B S H σ γ) : Rel0 K B.core S H σ γ := by
  obtain ⟨φ, r⟩ := R
  exact ⟨φ, r.same, r.keep, r.muk, r.grow, r.ext, r.len, r.sl, r.phH, r.phS, r.phD, r.phO, fun q u hq => (by cases hq), List.nodup_nil, r.spS⟩
theorem Rel.with (R : Rel X B S H σ γ) {S' H' : Hp} {σ' : L2.St} {γ' : List Sl} (r : Rel0 X.K B S' H' σ' γ') (e : Same S S') : Rel X B S' H' σ' γ' := ⟨r, R.x.mono e⟩
theorem Rel.same (R : Rel X B S H σ γ) : Same S H := R.r.same
theorem Rel.keep (R : Rel X B S H σ γ) : ∀ a o, B.H0 a = some o → a ∉ B.mu → H a = some o := R.r.keep
theorem Rel.muk (R : Rel X B S H σ γ) : ∀ a, a ∈ B.mu → B.S0 a = none ∧ (∃ o, B.H0 a = some o) ∧ ∃ o, H a = some o := R.r.muk
theorem Rel.grow (R : Rel X B S H σ γ) : Same B.S0 S := R.r.grow
theorem Rel.ext (R : Rel X B S H σ γ) : ∀ a o, S a = some o → B.S0 a = some o ∨ B.H0 a = none := R.r.ext
theorem Rel.len (R : Rel X B S H σ γ) : σ.length = γ.length := R.r.len
theorem Rel.sl (R : Rel X B S H σ γ) (i : Nat) (s : Sl) (h : γ[i]? = some s) : SlOk X.K B S H σ[i]? s := R.r.sl i s h
theorem Rel.fresh0 (R : Rel X B S H σ γ) (h : H p = none) : B.H0 p = none := R.r.fresh0 h
theorem Rel.freshS (R : Rel X B S H σ γ) (h : H p = none) : S p = none := R.r.freshS h
theorem Rel.new (R : Rel X B S H σ γ) (h : H p = none) : Rel X B (upd S p o) (upd H p o) σ γ := ⟨R.r.new h, R.x.mono (Same.upd (Same.refl S) (R.r.freshS h))⟩
theorem Rel.newF (R : Rel X B S H σ γ) (h : H p = none) : Rel X (B.fram p o) S (upd H p o) σ γ := ⟨R.r.newF h, R.x⟩
theorem Rel.unfram (R : Rel X (B.fram p o) S H σ γ) : Rel X B S H σ γ ∧ H p = some o ∧ S p = none ∧ B.H0 p = none := ⟨⟨R.r.unfram.1, R.x⟩, R.r.unfram.2⟩
theorem Rel.frzF (R : Rel X (B.fram p o) S H σ γ) : Rel X B (upd S p o) H σ γ := ⟨R.r.frzF, XLk.mono (B := B) R.x (Same.upd (Same.refl S) R.r.unfram.2.2.1)⟩
theorem Rel.chgF {u : HO} (R : Rel X (B.fram p o) S H σ γ) : Rel X (B.fram p u) S (L2.upd H p u) σ γ := ⟨R.r.chgF, R.x⟩
theorem Rel.set (R : Rel X B S H σ γ) {i : Nat} {v : V} {s : Sl} (hs : SlOk X.K B S H (some (some v)) s) (hn : s.may = none) : Rel X B S H (σ.set i (some v)) (γ.set i s) := ⟨R.r.set hs hn, R.x⟩
theorem Rel.setF (R : Rel X (B.fram p o) S H σ γ) {i : Nat} {s : Sl} (hs : SlF X.K B S (upd emptyH p o) (some (some (.ref p))) s) (hm : s.may = some false) : Rel X B S H (σ.set i (some (.ref p))) (γ.set i s) := ⟨R.r.setF hs hm, R.x⟩
theorem Rel.setOwn {xs : List V} (R : Rel X (B.fram p (.lst xs)) S H σ γ) {i : Nat} {ds : List D} (h : DenL S xs ds) : Rel X B S H (σ.set i (some (.ref p))) (γ.set i (.own false ds)) := ⟨R.r.setOwn h, R.x⟩
theorem Rel.chg (R : Rel X B S H σ γ) {i : Nat} {m : Bool} {xs' : List V} {ds ds' : List D} (hg : γ[i]? = some (.own m ds)) (hσ : σ[i]? = some (some (.ref p))) (hd : DenL (if m = true then B.SP else S) xs' ds') : Rel X B S (upd H p (.lst xs')) σ (γ.set i (.own m ds')) := ⟨R.r.chg hg hσ hd, R.x⟩
theorem Rel.chgI (R : Rel X B S H σ γ) {i : Nat} {m : Bool} {C dx : Addr} {vs vs' : List (Str × V)} {fs fs' : List (Str × D)} (hg : γ[i]? = some (.ins m C fs)) (hσ : σ[i]? = some (some (.ref p))) (hd : DenF S vs' fs') : Rel X B S (upd H p (.ins C dx vs')) σ (γ.set i (.ins m C fs')) := ⟨R.r.chgI (dx := dx) (vs := vs) hg hσ hd, R.x⟩
theorem Rel.lt (_ : Rel X B S H σ γ) {i : Nat} {s : Sl} (h : γ[i]? = some s) : i < γ.length := (List.getElem?_eq_some_iff.mp h).1
theorem Rel.drop (R : Rel X B S H σ γ) {i : Nat} : Rel X B S H σ (γ.set i .any) := ⟨R.r.drop, R.x⟩
theorem Rel.know (R : Rel X B S H σ γ) {i : Nat} {s : Sl} (hs : SlOk X.K B S H σ[i]? s) (hn : s.may = none) : Rel X B S H σ (γ.set i s) := ⟨R.r.know hs hn, R.x⟩
theorem Rel.takeOwn (R : Rel X B S H σ γ) {i : Nat} {ds : List D} (hg : γ[i]? = some (.own false ds)) : ∃ p xs, σ[i]? = some (some (.ref p)) ∧ DenL S xs ds ∧ Rel X (B.fram p (.lst xs)) S H σ (γ.set i .any) :=
  let ⟨p, xs, h1, h2, h3⟩ := R.r.takeOwn hg; ⟨p, xs, h1, h2, h3, R.x⟩
theorem Rel.val (R : Rel X B S H σ γ) {i : Nat} {ds : List D} (hg : γ[i]? = some (.own false ds)) : ∃ S' p, σ[i]? = some (some (.ref p)) ∧ Same S S' ∧ Rel X B S' H σ (γ.set i (.val (.lst ds))) ∧ Den S' (.ref p) (.lst ds) :=
  let ⟨S', p, h1, h2, h3, h4⟩ := R.r.val hg; ⟨S', p, h1, h2, ⟨h3, R.x.mono h2⟩, h4⟩
theorem Rel.nil (R : Rel X B S H σ γ) : Rel0 X.K B S H [] [] := R.r.nil
theorem Rel.call (R : Rel X B S H σ γ) (C : Rel0 X.K ⟨H, S, [], [], emptyH⟩ S' H' [] []) : Rel X B S' H' σ γ := ⟨R.r.call C, R.x.mono C.grow⟩
theorem Rel.callN (R : Rel X B S H σ γ) (C : Rel0 X.K ⟨H, S, [], [], emptyH⟩ S' H' [] []) (h0 : H p = none) (h1 : H' p = some o) (h2 : S' p = none) : Rel X (B.fram p o) S' H' σ γ := ⟨R.r.callN C h0 h1 h2, XLk.mono (B := B) R.x C.grow⟩
theorem Rel.callP {i : Nat} {m : Bool} {pl pl' : List D} {xs' : List V} (R : Rel X B S H σ γ) (hg : γ[i]? = some (.own m pl)) (hσ : σ[i]? = some (some (.ref p))) {SP : Hp} (C : Rel0 X.K ⟨H, S, [p], [], SP⟩ S' H' [] []) (k1 : S' p = none) (k2 : H' p = some (.lst xs')) (k3 : DenL (if m = true then B.SP else S') xs' pl') : Rel X B S' H' σ (γ.set i (.own m pl')) := ⟨R.r.callP hg hσ C k1 k2 k3, R.x.mono C.grow⟩
theorem Rel.callPN {i : Nat} {m : Bool} {a : Addr} {pl pl' : List D} {xs' : List V} (R : Rel X B S H σ γ) (hg : γ[i]? = some (.own m pl)) (hσ : σ[i]? = some (some (.ref p))) {SP : Hp} (C : Rel0 X.K ⟨H, S, [p], [], SP⟩ S' H' [] []) (k1 : S' p = none) (k2 : H' p = some (.lst xs')) (k3 : DenL (if m = true then B.SP else S') xs' pl') (l2 : H a = none) (l3 : H' a = some o) (l1 : S' a = none) : Rel X (B.fram a o) S' H' σ (γ.set i (.own m pl')) := ⟨R.r.callPN hg hσ C k1 k2 k3 l2 l3 l1, XLk.mono (B := B) R.x C.grow⟩
end
end DL
namespace DL
open PySem PySem.Spec PyProof.Rows L2
abbrev Xb.blk (X : Xb) (s : Shared) (H : Hp) (scope : Scope) (env : Env) (fp : List Addr) : Xb := ⟨X.c.blk s H scope env fp, X.W, X.dX⟩
section
variable {X : Xb} {s : Shared} {H0 : Hp} {sc : Scope} {env : Env} {fp : List Addr} {B : Bs} {S H : Hp} {σ : L2.St} {γ : List Sl}
theorem Rel.toBlk (R : Rel X B S H σ γ) : Rel (X.blk s H0 sc env fp) B S H σ γ := ⟨R.r, R.x⟩
theorem Rel.ofBlk (R : Rel (X.blk s H0 sc env fp) B S H σ γ) : Rel X B S H σ γ := ⟨R.r, R.x⟩
end
end DL
namespace DL
open PySem PySem.Spec PyProof.Rows L2
/-- a context of code that raises nothing -/
abbrev Xb.of (c : Cx) : Xb := ⟨c, fun _ _ _ _ => False, fun _ _ _ => False⟩
theorem Rel0.of {c : Cx} {B : Bs} {S H : Hp} {σ : L2.St} {γ : List Sl} (R : Rel0 c.K B S H σ γ) : Rel (Xb.of c) B S H σ γ := ⟨R, fun _ _ _ _ _ _ _ _ _ _ h => h.elim⟩
end DL
set_option Elab.async false
set_option linter.all false
set_option autoImplicit false
set_option maxRecDepth 100000
set_option maxHeartbeats 4000000
/-! DL2: judgements over the data: expressions, tests, arguments, iterators, targets, statements. -/
namespace DL
open PySem PySem.Spec PyProof.Rows L2

abbrev WE := List Sl → (D → List Sl → Prop) → Prop
abbrev WF := List Sl → (List D → List Sl → Prop) → Prop
abbrev WT := List Sl → (Bool → List Sl → Prop) → Prop
abbrev WA := List Sl → (List D → List Sl → Prop) → Prop
abbrev WO := List Sl → (Option Int → List Sl → Prop) → Prop
/-- monotone -/
def Mo {α : Type} (w : List Sl → (α → List Sl → Prop) → Prop) : Prop := ∀ γ (P P' : α → List Sl → Prop), (∀ d γ', P d γ' → P' d γ') → w γ P → w γ P'

structure SE (X : Xb) (t : TE) (w : WE) : Prop where
  mono : Mo w
  run : ∀ B S H σ γ (Q : VK), Rel X B S H σ γ → w γ (fun d γ' => ∀ v S' H', Rel X B S' H' σ γ' → Same S S' → Den S' v d → Q v H') → t σ H Q
/-- a new list -/
structure SF (X : Xb) (t : TE) (w : WF) : Prop where
  mono : Mo w
  run : ∀ B S H σ γ (Q : VK), Rel X B S H σ γ → w γ (fun ds γ' => ∀ p xs S' H', Rel X (B.fram p (.lst xs)) S' H' σ γ' → Same S S' → DenL S' xs ds → Q (.ref p) H') → t σ H Q
structure ST (X : Xb) (t : TT) (w : WT) : Prop where
  mono : Mo w
  run : ∀ B S H σ γ (Q : Bool → Hp → Prop), Rel X B S H σ γ → w γ (fun b γ' => ∀ S' H', Rel X B S' H' σ γ' → Same S S' → Q b H') → t σ H Q
structure SA (X : Xb) (t : TA) (w : WA) : Prop where
  mono : Mo w
  run : ∀ B S H σ γ (Q : List V → Hp → Prop), Rel X B S H σ γ → w γ (fun ds γ' => ∀ vs S' H', Rel X B S' H' σ γ' → Same S S' → DenL S' vs ds → Q vs H') → t σ H Q
structure SO (X : Xb) (t : TO) (w : WO) : Prop where
  mono : Mo w
  run : ∀ B S H σ γ (Q : Option Int → Hp → Prop), Rel X B S H σ γ → w γ (fun o γ' => ∀ S' H', Rel X B S' H' σ γ' → Same S S' → Q o H') → t σ H Q

structure DE (X : Xb) (e : Expr) (t : TE) (w : WE) : Prop where
  pe : PE X e t
  se : SE X t w
structure DF (X : Xb) (e : Expr) (t : TE) (w : WF) : Prop where
  pe : PE X e t
  sf : SF X t w
structure DT (X : Xb) (e : Expr) (t : TT) (w : WT) : Prop where
  pt : PT X e t
  st : ST X t w
/-- and, or within tests -/
structure DW (X : Xb) (e : Expr) (t : TT) (w : WT) : Prop where
  pw : PW X e t
  st : ST X t w
structure DA (X : Xb) (es : List Expr) (t : TA) (w : WA) : Prop where
  pa : PA X es t
  sa : SA X t w
structure DO (X : Xb) (e : Option Expr) (t : TO) (w : WO) : Prop where
  po : PO X e t
  so : SO X t w

section
variable {X : Xb} {K : PySem.W.Frag} {a b c e : Expr} {ta tb tc te : TE} {wa wb wc we : WE} {pos : Pos}
theorem DW.dt {t : TT} {w : WT} (h : DW X e t w) : DT X e t w := ⟨h.pw.pt, h.st⟩

/-! ### names, constants -/
def dVar (i : Nat) : WE := fun γ Q => (∃ d, γ[i]? = some (.val d) ∧ Q d γ) ∨ (∃ ds, γ[i]? = some (.own false ds) ∧ Q (.lst ds) (γ.set i (.val (.lst ds))))
theorem se_var {i : Nat} : SE X (tVar i) (dVar i) := by
  refine ⟨fun γ P P' h q => ?_, fun B S H σ γ Q R h => ?_⟩
  · rcases q with ⟨d, e, q⟩ | ⟨ds, e, q⟩
    · exact .inl ⟨d, e, h _ _ q⟩
    · exact .inr ⟨ds, e, h _ _ q⟩
  · rcases h with ⟨d, e, q⟩ | ⟨ds, e, q⟩
    · obtain ⟨v, e1, e2⟩ := R.sl i _ e
      exact ⟨v, e1, q v S H R (Same.refl S) e2⟩
    · obtain ⟨S', p, e1, e2, R', dn⟩ := R.val e
      exact ⟨.ref p, e1, q _ S' H R' e2 dn⟩
theorem de_var (i : Nat) {x : Str} (hN : X.N[i]? = some x := by rfl) (hv : Vis X.env.scope x := by first | exact Or.inl rfl | exact Or.inr (Or.inl rfl) | exact Or.inr (Or.inr rfl)) (hd : (x == ("__debug__" : Str)) = false := by decide)
    (hcd : (x == ("__classdict__" : Str)) = false := by decide) : DE X (.Name x pos) (tVar i) (dVar i) := ⟨pe_var hN hv hd hcd, se_var⟩
def dC (d : D) : WE := fun γ Q => Q d γ
theorem se_c {v : V} {d : D} (h : ∀ S, Den S v d) : SE X (tC v) (dC d) := ⟨fun γ P P' h q => h _ _ q, fun B S H σ γ Q R q => q v S H R (Same.refl S) (h S)⟩
theorem de_int {i : Int} {j} : DE X (.Constant (.int i) j pos) (tC (.int i)) (dC (.int i)) := ⟨pe_int, se_c fun _ => .int i⟩
theorem de_bl {i : Bool} {j} : DE X (.Constant (.bool i) j pos) (tC (.bl i)) (dC (.bl i)) := ⟨pe_bl, se_c fun _ => .bl i⟩
theorem de_non {j} : DE X (.Constant .none j pos) (tC .non) (dC .non) := ⟨pe_non, se_c fun _ => .non⟩
theorem de_str {x : Str} {j} : DE X (.Constant (.str x) j pos) (tC (.str x)) (dC (.str x)) := ⟨pe_str, se_c fun _ => .str x⟩
/-- a new list taken as a value -/
def dV (w : WF) : WE := fun γ Q => w γ fun ds γ' => Q (.lst ds) γ'
theorem se_of {t : TE} {w : WF} (h : SF X t w) : SE X t (dV w) := by
  refine ⟨fun γ P P' k q => h.mono γ _ _ (fun d γ' x => k _ _ x) q, fun B S H σ γ Q R q => ?_⟩
  refine h.run B S H σ γ Q R (h.mono γ _ _ (fun ds γ' k p xs S' H' R' e e4 => ?_) q)
  have e6 : Same S' (upd S' p (.lst xs)) := Same.upd (Same.refl S') R'.unfram.2.2.1
  exact k (.ref p) (upd S' p (.lst xs)) H' R'.frzF (e.trans e6) (.ofL upd_same (e4.mono e6))
theorem DF.v {t : TE} {w : WF} (h : DF X e t w) : DE X e t (dV w) := ⟨h.pe, se_of h.sf⟩

/-! ### operators -/
/-- an operation's rule by values and what it is on data -/
structure OpS (r : R2) (f : D → D → (D → Prop) → Prop) : Prop where
  mono : ∀ x y (P P' : D → Prop), (∀ d, P d → P' d) → f x y P → f x y P'
  run : ∀ X B S H σ γ (Q : VK) v u x y, Rel X B S H σ γ → Den S v x → Den S u y → f x y (fun d => ∀ z S' H', Rel X B S' H' σ γ → Same S S' → Den S' z d → Q z H') → r v u H Q
def dOp (f : D → D → (D → Prop) → Prop) (wa wb : WE) : WE := fun γ Q => wa γ fun x γ1 => wb γ1 fun y γ2 => f x y fun d => Q d γ2
theorem se_op {r : R2} {f : D → D → (D → Prop) → Prop} (ho : OpS r f) (ha : SE X ta wa) (hb : SE X tb wb) : SE X (tOp r ta tb) (dOp f wa wb) := by
  refine ⟨fun γ P P' k q => ha.mono γ _ _ (fun x γ1 q => hb.mono γ1 _ _ (fun y γ2 q => ho.mono x y _ _ (fun d q => k _ _ q) q) q) q, fun B S H σ γ Q R q => ?_⟩
  refine ha.run B S H σ γ _ R (ha.mono γ _ _ (fun x γ1 q v S1 H1 R1 e1 d1 => ?_) q)
  refine hb.run B S1 H1 σ γ1 _ R1 (hb.mono γ1 _ _ (fun y γ2 q u S2 H2 R2 e2 d2 => ?_) q)
  exact ho.run X B S2 H2 σ γ2 Q v u x y R2 (d1.mono e2) d2 (ho.mono _ _ _ _ (fun d q z S' H' R' e d' => q z S' H' R' ((e1.trans e2).trans e) d') q)
theorem de_op {op : Operator} {r : R2} {f : D → D → (D → Prop) → Prop} (h : OpR X (binaryOp op) r) (ho : OpS r f) (ha : DE X a ta wa) (hb : DE X b tb wb) : DE X (.BinOp a op b pos) (tOp r ta tb) (dOp f wa wb) := ⟨pe_op h ha.pe hb.pe, se_op ho ha.se hb.se⟩
theorem de_cmp {op : CmpOp} {r : R2} {f : D → D → (D → Prop) → Prop} (h : OpR X (compareOp op) r) (ho : OpS r f) (ha : DE X a ta wa) (hb : DE X b tb wb) (hm : behindInMarks op b = false) : DE X (.Compare a [op] [b] pos) (tOp r ta tb) (dOp f wa wb) := ⟨pe_cmpR h ha.pe hb.pe hm, se_op ho ha.se hb.se⟩
/-- ints to a datum, under a condition -/
def dI (C : Int → Int → Prop) (g : Int → Int → D) (x y : D) (Q : D → Prop) : Prop := ∃ i j, x = .int i ∧ y = .int j ∧ C i j ∧ Q (g i j)
def dI0 (g : Int → Int → D) (x y : D) (Q : D → Prop) : Prop := ∃ i j, x = .int i ∧ y = .int j ∧ Q (g i j)
theorem ops_I {C : Int → Int → Prop} {g : Int → Int → V} {h : Int → Int → D} (e : ∀ S i j, Den S (g i j) (h i j)) : OpS (rI C g) (dI C h) := by
  refine ⟨fun x y P P' k q => ?_, fun X B S H σ γ Q v u x y R d1 d2 q => ?_⟩
  · obtain ⟨i, j, e1, e2, c, q⟩ := q
    exact ⟨i, j, e1, e2, c, k _ q⟩
  · obtain ⟨i, j, e1, e2, c, q⟩ := q
    subst e1; subst e2
    cases d1; cases d2
    exact ⟨i, j, rfl, rfl, c, q _ S H R (Same.refl S) (e S i j)⟩
theorem ops_I0 {g : Int → Int → V} {h : Int → Int → D} (e : ∀ S i j, Den S (g i j) (h i j)) : OpS (rI0 g) (dI0 h) := by
  refine ⟨fun x y P P' k q => ?_, fun X B S H σ γ Q v u x y R d1 d2 q => ?_⟩
  · obtain ⟨i, j, e1, e2, q⟩ := q
    exact ⟨i, j, e1, e2, k _ q⟩
  · obtain ⟨i, j, e1, e2, q⟩ := q
    subst e1; subst e2
    cases d1; cases d2
    exact ⟨i, j, rfl, rfl, q _ S H R (Same.refl S) (e S i j)⟩
abbrev dAdd := dOp (dI0 fun i j => .int (i + j))
abbrev dSub := dOp (dI0 fun i j => .int (i - j))
abbrev dMul := dOp (dI CMul fun i j => .int (i * j))
abbrev dMulW := dOp (dI CMulW fun i j => .int (i * j))
abbrev dFdv := dOp (dI CDivW fun i j => .int (i / j))
abbrev dMod := dOp (dI (fun _ j => 0 < j) fun i j => .int (i % j))
abbrev dPow := dOp (dI CPow fun i j => .int (i ^ j.toNat))
abbrev dLt := dOp (dI0 fun i j => .bl (decide (i < j)))
abbrev dLe := dOp (dI0 fun i j => .bl (decide (i ≤ j)))
abbrev dGt := dOp (dI0 fun i j => .bl (decide (j < i)))
abbrev dGe := dOp (dI0 fun i j => .bl (decide (j ≤ i)))
theorem de_add (ha : DE X a ta wa) (hb : DE X b tb wb) : DE X (.BinOp a .Add b pos) (tOp (rI0 fun i j => .int (i + j)) ta tb) (dAdd wa wb) := de_op op_add (ops_I0 fun _ _ _ => .int _) ha hb
theorem de_sub (ha : DE X a ta wa) (hb : DE X b tb wb) : DE X (.BinOp a .Sub b pos) (tOp (rI0 fun i j => .int (i - j)) ta tb) (dSub wa wb) := de_op op_sub (ops_I0 fun _ _ _ => .int _) ha hb
theorem de_fdv (ha : DE X a ta wa) (hb : DE X b tb wb) : DE X (.BinOp a .FloorDiv b pos) (tOp (rI CDivW fun i j => .int (i / j)) ta tb) (dFdv wa wb) := de_op op_fdivW (ops_I fun _ _ _ => .int _) ha hb
theorem de_mod (ha : DE X a ta wa) (hb : DE X b tb wb) : DE X (.BinOp a .Mod b pos) (tOp (rI (fun _ j => 0 < j) fun i j => .int (i % j)) ta tb) (dMod wa wb) := de_op op_mod (ops_I fun _ _ _ => .int _) ha hb
theorem de_pow (ha : DE X a ta wa) (hb : DE X b tb wb) : DE X (.BinOp a .Pow b pos) (tOp (rI CPow fun i j => .int (i ^ j.toNat)) ta tb) (dPow wa wb) := de_op op_pow (ops_I fun _ _ _ => .int _) ha hb
/-- == of scalars: None, bools, ints, texts -/
def scalD : D → Option V
  | .non => some .non | .bl b => some (.bl b) | .int i => some (.int i) | .str s => some (.str s) | _ => none
theorem scalD_den {S : Hp} {d : D} {v u : V} (h : Den S v d) (e : scalD d = some u) : v = u := by
  cases h <;> first | (cases e; rfl) | cases e
def dSc (neg : Bool) (x y : D) (Q : D → Prop) : Prop := ∃ v u, scalD x = some v ∧ scalD y = some u ∧ scal v u = true ∧ Q (.bl (if neg then !decide (v = u) else decide (v = u)))
theorem ops_eq : OpS rEq (dSc false) := by
  refine ⟨fun x y P P' k q => ?_, fun X B S H σ γ Q v u x y R d1 d2 q => ?_⟩
  · obtain ⟨i, j, e1, e2, c, q⟩ := q
    exact ⟨i, j, e1, e2, c, k _ q⟩
  · obtain ⟨i, j, e1, e2, c, q⟩ := q
    rw [scalD_den d1 e1, scalD_den d2 e2]
    exact ⟨c, q _ S H R (Same.refl S) (.bl _)⟩
theorem ops_ne : OpS rNe (dSc true) := by
  refine ⟨fun x y P P' k q => ?_, fun X B S H σ γ Q v u x y R d1 d2 q => ?_⟩
  · obtain ⟨i, j, e1, e2, c, q⟩ := q
    exact ⟨i, j, e1, e2, c, k _ q⟩
  · obtain ⟨i, j, e1, e2, c, q⟩ := q
    rw [scalD_den d1 e1, scalD_den d2 e2]
    exact ⟨c, q _ S H R (Same.refl S) (.bl _)⟩
abbrev dEq := dOp (dSc false)
abbrev dNe := dOp (dSc true)
theorem de_eq (ha : DE X a ta wa) (hb : DE X b tb wb) : DE X (.Compare a [.Eq] [b] pos) (tOp rEq ta tb) (dEq wa wb) := de_cmp op_eq ops_eq ha hb (nomark _)
/-- is None, is not None -/
def dIsN (neg : Bool) (x y : D) (Q : D → Prop) : Prop := y = .non ∧ Q (.bl (match x with | .non => !neg | _ => neg))
theorem ops_isN : OpS (fun x y H Q => y = .non ∧ Q (.bl (decide (x = .non))) H) (dIsN false) := by
  refine ⟨fun x y P P' k q => ⟨q.1, k _ q.2⟩, fun X B S H σ γ Q v u x y R d1 d2 q => ?_⟩
  obtain ⟨e, q⟩ := q
  subst e
  cases d2
  refine ⟨rfl, q _ S H R (Same.refl S) ?_⟩
  cases d1 <;> exact .bl _
theorem ops_notN : OpS (fun x y H Q => y = .non ∧ Q (.bl (!decide (x = .non))) H) (dIsN true) := by
  refine ⟨fun x y P P' k q => ⟨q.1, k _ q.2⟩, fun X B S H σ γ Q v u x y R d1 d2 q => ?_⟩
  obtain ⟨e, q⟩ := q
  subst e
  cases d2
  refine ⟨rfl, q _ S H R (Same.refl S) ?_⟩
  cases d1 <;> exact .bl _
theorem de_isN {j pos'} (ha : DE X a ta wa) : DE X (.Compare a [.Is] [.Constant .none j pos'] pos) (tOp (fun x y H Q => y = .non ∧ Q (.bl (decide (x = .non))) H) ta (tC .non)) (dOp (dIsN false) wa (dC .non)) := de_cmp op_isN ops_isN ha de_non (nomark _)
/-- - x -/
def dNeg (wa : WE) : WE := fun γ Q => wa γ fun x γ1 => ∃ i, x = .int i ∧ Q (.int (-i)) γ1
theorem de_neg (ha : DE X a ta wa) : DE X (.UnaryOp .USub a pos) (tUn (rU fun i => .int (-i)) ta) (dNeg wa) := by
  refine ⟨pe_un un_neg ha.pe, fun γ P P' k q => ha.se.mono γ _ _ (fun x γ1 ⟨i, e, q⟩ => ⟨i, e, k _ _ q⟩) q, fun B S H σ γ Q R q => ?_⟩
  refine ha.se.run B S H σ γ _ R (ha.se.mono γ _ _ (fun x γ1 ⟨i, e, q⟩ v S1 H1 R1 e1 d1 => ?_) q)
  subst e
  cases d1
  exact ⟨i, rfl, q _ S1 H1 R1 e1 (.int _)⟩

/-! ### tests -/
/-- a value's truth -/
def truD : D → Bool
  | .non => false | .bl b => b | .int i => i != 0 | .str s => (s.length : Int) != 0 | .lst ds => !ds.isEmpty | .tup ds => !ds.isEmpty | .obj _ _ => true | .emp => false | .ref _ => true
def okT : D → Prop
  | .str s => s.length ≤ sizeLine | .obj _ _ => False | .emp => False | .ref _ => False | _ => True
def dTr (wa : WE) : WT := fun γ Q => wa γ fun x γ1 => okT x ∧ Q (truD x) γ1
theorem isEmpty_len {α β : Type} {xs : List α} {ds : List β} (h : xs.length = ds.length) : xs.isEmpty = ds.isEmpty := by
  cases xs <;> cases ds <;> simp_all
theorem truV_of {H S : Hp} {v : V} {d : D} (h : Den S v d) (e : Same S H) (ok : okT d) : TruV K v H (truD d) := by
  cases h with
  | non => rfl
  | bl b => rfl
  | int i => rfl
  | str s => exact ⟨ok, rfl⟩
  | lst h hl hs => exact .inl ⟨_, SqL.of (e _ _ h), by show (!_) = _; rw [isEmpty_len hl]⟩
  | tup h hl hs => exact .inr (.inl ⟨_, SqT.of (e _ _ h), by show (!_) = _; rw [isEmpty_len hl]⟩)
  | obj h hl hn hs => exact ok.elim
  | emp h => exact ok.elim
  | ref p => exact ok.elim
theorem dt_tr (K' : PySem.W.Frag) (ha : DE X a ta wa) (he : ∀ whole, isTrue a X.env whole = (do let v ← whole; standAt a.pos; holding [v] (truthy v)) := by intro _; rfl) (hK : X.K = K' := by rfl) : DT X a (fun σ H Q => ta σ H fun x H' => ∃ k, TruV K' x H' k ∧ Q k H') (dTr wa) := by
  subst hK
  refine ⟨pt_truth ha.pe he, fun γ P P' k q => ha.se.mono γ _ _ (fun x γ1 ⟨e, q⟩ => ⟨e, k _ _ q⟩) q, fun B S H σ γ Q R q => ?_⟩
  refine ha.se.run B S H σ γ _ R (ha.se.mono γ _ _ (fun x γ1 ⟨ok, q⟩ v S1 H1 R1 e1 d1 => ?_) q)
  exact ⟨_, truV_of d1 R1.same ok, q S1 H1 R1 e1⟩
/-- a comparison as a test -/
def dB (wa : WE) : WT := fun γ Q => wa γ fun x γ1 => ∃ b, x = .bl b ∧ Q b γ1
theorem st_test (ha : SE X ta wa) : ST X (tTest ta) (dB wa) := by
  refine ⟨fun γ P P' k q => ha.mono γ _ _ (fun x γ1 ⟨i, e, q⟩ => ⟨i, e, k _ _ q⟩) q, fun B S H σ γ Q R q => ?_⟩
  refine ha.run B S H σ γ _ R (ha.mono γ _ _ (fun x γ1 ⟨i, e, q⟩ v S1 H1 R1 e1 d1 => ?_) q)
  subst e
  cases d1
  exact ⟨i, rfl, q S1 H1 R1 e1⟩
theorem dt_cmp {op : CmpOp} {r : R2} {f : D → D → (D → Prop) → Prop} (h : OpR X (compareOp op) r) (ho : OpS r f) (ha : DE X a ta wa) (hb : DE X b tb wb) (hm : behindInMarks op b = false) : DT X (.Compare a [op] [b] pos) (tTest (tOp r ta tb)) (dB (dOp f wa wb)) := ⟨pt_cmpR h ha.pe hb.pe hm, st_test (se_op ho ha.se hb.se)⟩
theorem dt_eq (ha : DE X a ta wa) (hb : DE X b tb wb) : DT X (.Compare a [.Eq] [b] pos) (tTest (tOp rEq ta tb)) (dB (dEq wa wb)) := dt_cmp op_eq ops_eq ha hb (nomark _)
theorem dt_ne (ha : DE X a ta wa) (hb : DE X b tb wb) : DT X (.Compare a [.NotEq] [b] pos) (tTest (tOp rNe ta tb)) (dB (dNe wa wb)) := dt_cmp op_ne ops_ne ha hb (nomark _)
theorem dt_lt (ha : DE X a ta wa) (hb : DE X b tb wb) : DT X (.Compare a [.Lt] [b] pos) (tTest (tOp (rI0 fun i j => .bl (decide (i < j))) ta tb)) (dB (dLt wa wb)) := dt_cmp op_lt (ops_I0 fun _ _ _ => .bl _) ha hb (nomark _)
theorem dt_le (ha : DE X a ta wa) (hb : DE X b tb wb) : DT X (.Compare a [.LtE] [b] pos) (tTest (tOp (rI0 fun i j => .bl (decide (i ≤ j))) ta tb)) (dB (dLe wa wb)) := dt_cmp op_le (ops_I0 fun _ _ _ => .bl _) ha hb (nomark _)
theorem dt_gt (ha : DE X a ta wa) (hb : DE X b tb wb) : DT X (.Compare a [.Gt] [b] pos) (tTest (tOp (rI0 fun i j => .bl (decide (j < i))) ta tb)) (dB (dGt wa wb)) := dt_cmp op_gt (ops_I0 fun _ _ _ => .bl _) ha hb (nomark _)
theorem dt_ge (ha : DE X a ta wa) (hb : DE X b tb wb) : DT X (.Compare a [.GtE] [b] pos) (tTest (tOp (rI0 fun i j => .bl (decide (j ≤ i))) ta tb)) (dB (dGe wa wb)) := dt_cmp op_ge (ops_I0 fun _ _ _ => .bl _) ha hb (nomark _)
theorem dt_isN {j pos'} (ha : DE X a ta wa) : DT X (.Compare a [.Is] [.Constant .none j pos'] pos) (tTest (tOp (fun x y H Q => y = .non ∧ Q (.bl (decide (x = .non))) H) ta (tC .non))) (dB (dOp (dIsN false) wa (dC .non))) := dt_cmp op_isN ops_isN ha de_non (nomark _)
theorem dt_notN {j pos'} (ha : DE X a ta wa) : DT X (.Compare a [.IsNot] [.Constant .none j pos'] pos) (tTest (tOp (fun x y H Q => y = .non ∧ Q (.bl (!decide (x = .non))) H) ta (tC .non))) (dB (dOp (dIsN true) wa (dC .non))) := dt_cmp op_notN ops_notN ha de_non (nomark _)
variable {t u : TT} {w w' : WT} {rest : List Expr}
def dAnd (w w' : WT) : WT := fun γ Q => w γ fun c γ1 => if c = true then w' γ1 Q else Q false γ1
def dOr (w w' : WT) : WT := fun γ Q => w γ fun c γ1 => if c = true then Q true γ1 else w' γ1 Q
def dNot (w : WT) : WT := fun γ Q => w γ fun c γ1 => Q (!c) γ1
theorem Mo.ite {α : Type} {w w' : List Sl → (α → List Sl → Prop) → Prop} (h : Mo w) (h' : Mo w') {γ} {P P' : α → List Sl → Prop} {c : Bool} (k : ∀ d γ', P d γ' → P' d γ') (q : if c = true then w γ P else w' γ P) : if c = true then w γ P' else w' γ P' := by
  cases c with
  | true => exact h γ _ _ k q
  | false => exact h' γ _ _ k q
theorem dw_and1 (h : DT X a t w) : DW X (.BoolOp .And [a] pos) t w := ⟨pw_and1 h.pt, h.st⟩
theorem dw_or1 (h : DT X a t w) : DW X (.BoolOp .Or [a] pos) t w := ⟨pw_or1 h.pt, h.st⟩
theorem dw_and (h : DT X a t w) (h' : DW X (.BoolOp .And (b :: rest) pos) u w') : DW X (.BoolOp .And (a :: b :: rest) pos) (tAnd t u) (dAnd w w') := by
  refine ⟨pw_and h.pt h'.pw, fun γ P P' k q => h.st.mono γ _ _ (fun c γ1 q => ?_) q, fun B S H σ γ Q R q => ?_⟩
  · cases c with
    | true => exact h'.st.mono γ1 _ _ k q
    | false => exact k _ _ q
  · refine h.st.run B S H σ γ _ R (h.st.mono γ _ _ (fun c γ1 q S1 H1 R1 e1 => ?_) q)
    cases c with
    | true => exact h'.st.run B S1 H1 σ γ1 _ R1 (h'.st.mono γ1 _ _ (fun b γ2 q S' H' R' e => q S' H' R' (e1.trans e)) q)
    | false => exact q S1 H1 R1 e1
theorem dw_or (h : DT X a t w) (h' : DW X (.BoolOp .Or (b :: rest) pos) u w') : DW X (.BoolOp .Or (a :: b :: rest) pos) (tOr t u) (dOr w w') := by
  refine ⟨pw_or h.pt h'.pw, fun γ P P' k q => h.st.mono γ _ _ (fun c γ1 q => ?_) q, fun B S H σ γ Q R q => ?_⟩
  · cases c with
    | true => exact k _ _ q
    | false => exact h'.st.mono γ1 _ _ k q
  · refine h.st.run B S H σ γ _ R (h.st.mono γ _ _ (fun c γ1 q S1 H1 R1 e1 => ?_) q)
    cases c with
    | true => exact q S1 H1 R1 e1
    | false => exact h'.st.run B S1 H1 σ γ1 _ R1 (h'.st.mono γ1 _ _ (fun b γ2 q S' H' R' e => q S' H' R' (e1.trans e)) q)
theorem dt_not (h : DT X a t w) : DT X (.UnaryOp .Not a pos) (tNot t) (dNot w) :=
  ⟨pt_not h.pt, fun γ P P' k q => h.st.mono γ _ _ (fun c γ1 q => k _ _ q) q, fun B S H σ γ Q R q => h.st.run B S H σ γ _ R q⟩
/-- .. as values (of bools) -/
def dAndV (wa wb : WE) : WE := fun γ Q => wa γ fun x γ1 => ∃ c, x = .bl c ∧ if c = true then wb γ1 Q else Q (.bl false) γ1
def dOrV (wa wb : WE) : WE := fun γ Q => wa γ fun x γ1 => ∃ c, x = .bl c ∧ if c = true then Q (.bl true) γ1 else wb γ1 Q
def dNotV (wa : WE) : WE := fun γ Q => wa γ fun x γ1 => ∃ c, x = .bl c ∧ Q (.bl (!c)) γ1
theorem de_one {op} (h : DE X a ta wa) : DE X (.BoolOp op [a] pos) ta wa := ⟨pe_one h.pe, h.se⟩
theorem de_and (h : DE X a ta wa) (h' : DE X (.BoolOp .And (b :: rest) pos) tb wb) : DE X (.BoolOp .And (a :: b :: rest) pos) (tAndV ta tb) (dAndV wa wb) := by
  refine ⟨L2.pe_and h.pe h'.pe, fun γ P P' k q => h.se.mono γ _ _ (fun x γ1 ⟨c, e, q⟩ => ⟨c, e, Mo.ite (w' := fun γ (Q : D → List Sl → Prop) => Q (D.bl false) γ) h'.se.mono (fun _ _ _ k q => k _ _ q) k q⟩) q, fun B S H σ γ Q R q => ?_⟩
  · refine h.se.run B S H σ γ _ R (h.se.mono γ _ _ (fun x γ1 ⟨c, e, q⟩ v S1 H1 R1 e1 d1 => ?_) q)
    subst e
    cases d1
    refine ⟨c, rfl, ?_⟩
    cases c with
    | true => exact h'.se.run B S1 H1 σ γ1 _ R1 (h'.se.mono γ1 _ _ (fun b γ2 q v S' H' R' e => q v S' H' R' (e1.trans e)) q)
    | false => exact q _ S1 H1 R1 e1 (.bl _)
theorem de_not (h : DE X a ta wa) : DE X (.UnaryOp .Not a pos) (tNotV ta) (dNotV wa) := by
  refine ⟨L2.pe_not h.pe, fun γ P P' k q => h.se.mono γ _ _ (fun x γ1 ⟨c, e, q⟩ => ⟨c, e, k _ _ q⟩) q, fun B S H σ γ Q R q => ?_⟩
  refine h.se.run B S H σ γ _ R (h.se.mono γ _ _ (fun x γ1 ⟨c, e, q⟩ v S1 H1 R1 e1 d1 => ?_) q)
  subst e
  cases d1
  exact ⟨c, rfl, q _ S1 H1 R1 e1 (.bl _)⟩
/-- a if c else b -/
def dIfE (w : WT) (wa wb : WE) : WE := fun γ Q => w γ fun c γ1 => if c = true then wa γ1 Q else wb γ1 Q
end

/-! ### argument lists, displays -/
section
variable {X : Xb} {K : PySem.W.Frag} {e : Expr} {es : List Expr} {te : TE} {we : WE} {t : TA} {w : WA} {pos : Pos}
def dNil : WA := fun γ Q => Q [] γ
def dCons (we : WE) (w : WA) : WA := fun γ Q => we γ fun x γ1 => w γ1 fun ds γ2 => Q (x :: ds) γ2
theorem da_nil : DA X [] tNil dNil := ⟨pa_nil, fun γ P P' k q => k _ _ q, fun B S H σ γ Q R q => q [] S H R (Same.refl S) .nil⟩
theorem da_cons (he : DE X e te we) (h : DA X es t w) (hs : starEach (e :: es) X.env = (false, eval e X.env) :: starEach es X.env := by rfl) : DA X (e :: es) (tCons te t) (dCons we w) := by
  refine ⟨pa_cons he.pe h.pa hs, fun γ P P' k q => he.se.mono γ _ _ (fun x γ1 q => h.sa.mono γ1 _ _ (fun ds γ2 q => k _ _ q) q) q, fun B S H σ γ Q R q => ?_⟩
  refine he.se.run B S H σ γ _ R (he.se.mono γ _ _ (fun x γ1 q v S1 H1 R1 e1 d1 => ?_) q)
  exact h.sa.run B S1 H1 σ γ1 _ R1 (h.sa.mono γ1 _ _ (fun ds γ2 q vs S2 H2 R2 e2 d2 => q _ S2 H2 R2 (e1.trans e2) (.cons (d1.mono e2) d2)) q)
def dTup (w : WA) : WE := fun γ Q => w γ fun ds γ1 => ds.length ≤ sizeLine ∧ Q (.tup ds) γ1
theorem de_tup {x1} (h : DA X es t w) : DE X (.Tuple es x1 pos) (tTup t) (dTup w) := by
  refine ⟨pe_tup h.pa, fun γ P P' k q => h.sa.mono γ _ _ (fun x γ1 q => ⟨q.1, k _ _ q.2⟩) q, fun B S H σ γ Q R q => ?_⟩
  refine h.sa.run B S H σ γ _ R (h.sa.mono γ _ _ (fun x γ1 q vs S1 H1 R1 e1 d1 => ⟨by rw [d1.1]; exact q.1, fun p hp => ?_⟩) q)
  have e2 : Same S1 (upd S1 p (.tup vs)) := Same.upd (Same.refl S1) (R1.freshS hp)
  exact q.2 _ _ _ (R1.new hp) (e1.trans e2) (.ofT upd_same (d1.mono e2))
def dLst (w : WA) : WF := fun γ Q => w γ fun ds γ1 => ds.length ≤ sizeLine ∧ Q ds γ1
theorem df_lst (h : DA X es t w) : DF X (.List es pos) (tLst t) (dLst w) := by
  refine ⟨pe_lst h.pa, fun γ P P' k q => h.sa.mono γ _ _ (fun x γ1 q => ⟨q.1, k _ _ q.2⟩) q, fun B S H σ γ Q R q => ?_⟩
  refine h.sa.run B S H σ γ _ R (h.sa.mono γ _ _ (fun x γ1 q vs S1 H1 R1 e1 d1 => ⟨by rw [d1.1]; exact q.1, fun p hp => ?_⟩) q)
  exact q.2 p vs S1 _ (R1.newF hp) e1 d1
end
end DL
set_option Elab.async false
set_option linter.all false
set_option autoImplicit false
set_option maxRecDepth 100000
set_option maxHeartbeats 4000000
/-! DL3: subscripts, slices, calls, iterators, comprehensions. -/
namespace DL
open PySem PySem.Spec PyProof.Rows L2

section
variable {X : Xb} {K : PySem.W.Frag} {a b c e : Expr} {ta tb tc te : TE} {wa wb wc we : WE} {pos : Pos}
/-! ### x[i] -/
def rIxLT (K : PySem.W.Frag) : R2 := fun x y H Q => rIxL K x y H Q ∨ rIxT K x y H Q
theorem ix_LT : IxR X (rIxLT X.K) := IxR.or ix_list ix_tup
def itemD (x y : D) (Q : D → Prop) : Prop := ∃ i d, y = .int i ∧ ((∃ ds, x = .lst ds ∧ atI ds i = some d) ∨ (∃ ds, x = .tup ds ∧ atI ds i = some d)) ∧ Q d
theorem DenL.atI {S : Hp} {xs : List V} {ds : List D} {i : Int} {d : D} (h : DenL S xs ds) (e : atI ds i = some d) : ∃ v, atI xs i = some v ∧ Den S v d := by
  unfold L2.atI at e ⊢
  rw [h.1]
  cases q : ixN ds.length i with
  | none => rw [q] at e; cases e
  | some j =>
    rw [q] at e
    exact h.get e
theorem se_ix {ta tb : TE} {wa wb : WE} (ha : SE X ta wa) (hb : SE X tb wb) : SE X (tOp (rIxLT K) ta tb) (dOp itemD wa wb) := by
  refine ⟨fun γ P P' k q => ha.mono γ _ _ (fun x γ1 q => hb.mono γ1 _ _ (fun y γ2 ⟨i, d, e1, e2, q⟩ => ⟨i, d, e1, e2, k _ _ q⟩) q) q, fun B S H σ γ Q R q => ?_⟩
  refine ha.run B S H σ γ _ R (ha.mono γ _ _ (fun x γ1 q1 v S1 H1 R1 e1 d1 => ?_) q)
  refine hb.run B S1 H1 σ γ1 _ R1 (hb.mono γ1 _ _ (fun y γ2 q2 u S2 H2 R2 e2 d2 => ?_) q1)
  obtain ⟨i, d, f1, f2, q3⟩ := q2
  clear q1
  subst f1
  cases d2
  rcases f2 with ⟨ds, f2, f3⟩ | ⟨ds, f2, f3⟩
  · subst f2
    obtain ⟨a, xs, g1, g2, g3⟩ := d1.lst_inv
    subst g1
    obtain ⟨z, g4, g5⟩ := g3.atI f3
    exact .inl ⟨a, xs, i, z, rfl, rfl, SqL.of (R2.same _ _ (e2 _ _ g2)), g4, q3 z S2 H2 R2 (e1.trans e2) (g5.mono e2)⟩
  · subst f2
    obtain ⟨a, xs, g1, g2, g3⟩ := d1.tup_inv
    subst g1
    obtain ⟨z, g4, g5⟩ := g3.atI f3
    exact .inr ⟨a, xs, i, z, rfl, rfl, SqT.of (R2.same _ _ (e2 _ _ g2)), g4, q3 z S2 H2 R2 (e1.trans e2) (g5.mono e2)⟩
theorem de_ix (K' : PySem.W.Frag) (ha : DE X a ta wa) (hb : DE X b tb wb) (hs : PlainIx b := by exact fun _ _ => rfl) (hK : X.K = K' := by rfl) : DE X (.Subscript a b pos) (tOp (rIxLT K') ta tb) (dOp itemD wa wb) := by
  subst hK
  exact ⟨pe_ix ix_LT ha.pe hb.pe hs, se_ix ha.se hb.se⟩
/-- an item of a list of one's own, at a name -/
def dIxO (i : Nat) (wb : WE) : WE := fun γ Q => (∃ m ds, γ[i]? = some (.own m ds)) ∧ wb γ fun y γ1 => ∃ k m ds d, y = .int k ∧ γ1[i]? = some (.own m ds) ∧ atI ds k = some d ∧ Q d γ1
theorem de_ixO (K' : PySem.W.Frag) (i : Nat) {x : Str} {px : Pos} (hb : DE X b tb wb) (hN : X.N[i]? = some x := by rfl) (hv : Vis X.env.scope x := by first | exact Or.inl rfl | exact Or.inr (Or.inl rfl) | exact Or.inr (Or.inr rfl)) (hd : (x == ("__debug__" : Str)) = false := by decide)
    (hcd : (x == ("__classdict__" : Str)) = false := by decide) (hs : PlainIx b := by exact fun _ _ => rfl) (hK : X.K = K' := by rfl) : DE X (.Subscript (.Name x px) b pos) (tOp (rIxLT K') (tVar i) tb) (dIxO i wb) := by
  subst hK
  refine ⟨pe_ix ix_LT (pe_var hN hv hd hcd) hb.pe hs, fun γ P P' k q => ⟨q.1, hb.se.mono γ _ _ (fun y γ1 ⟨n, m, ds, d, e1, e2, e3, q⟩ => ⟨n, m, ds, d, e1, e2, e3, k _ _ q⟩) q.2⟩, fun B S H σ γ Q R q => ?_⟩
  obtain ⟨⟨m0, ds0, e0⟩, q⟩ := q
  obtain ⟨p0, xs0, g0, _⟩ := R.sl i _ e0
  refine ⟨_, g0, ?_⟩
  refine hb.se.run B S H σ γ _ R (hb.se.mono γ _ _ (fun y γ1 q u S1 H1 R1 e1 d1 => ?_) q)
  obtain ⟨n, m, ds, d, f1, f2, f3, q⟩ := q
  subst f1
  cases d1
  obtain ⟨p, xs, g1, g2, g3, g4, g5⟩ := R1.sl i _ f2
  rw [g0] at g1
  cases g1
  obtain ⟨z, g6, g7⟩ := g4.atI f3
  exact .inl ⟨p0, xs, n, z, rfl, rfl, SqL.of g3, g6, q z S1 H1 R1 e1 g7⟩

/-! ### slices of lists -/
def dNoPart : WO := fun γ Q => Q none γ
def dPart (w : WE) : WO := fun γ Q => w γ fun x γ1 => ∃ i, x = .int i ∧ Q (some i) γ1
theorem do_none : DO X none tNoPart dNoPart := ⟨po_none, fun γ P P' k q => k _ _ q, fun B S H σ γ Q R q => q S H R (Same.refl S)⟩
theorem do_some (h : DE X e te we) : DO X (some e) (tPart te) (dPart we) := by
  refine ⟨po_some h.pe, fun γ P P' k q => h.se.mono γ _ _ (fun x γ1 ⟨i, e, q⟩ => ⟨i, e, k _ _ q⟩) q, fun B S H σ γ Q R q => ?_⟩
  refine h.se.run B S H σ γ _ R (h.se.mono γ _ _ (fun x γ1 ⟨i, e, q⟩ u S1 H1 R1 e1 d1 => ?_) q)
  subst e
  cases d1
  exact ⟨i, rfl, q S1 H1 R1 e1⟩
def cutL (xs : List D) (lo hi : Option Int) : List D := (xs.drop (HT.sIx xs.length 0 lo)).take (HT.sIx xs.length xs.length hi - HT.sIx xs.length 0 lo)
theorem DenL.cut {S : Hp} {xs : List V} {ds : List D} (h : DenL S xs ds) (lo hi : Option Int) : DenL S (cutV xs lo hi) (cutL ds lo hi) := by
  unfold cutV cutL
  rw [h.1]
  exact (h.drop _).take _
def dSl (wa : WE) (wl wh : WO) : WF := fun γ Q => wa γ fun x γ1 => wl γ1 fun l γ2 => wh γ2 fun h γ3 => ∃ ds, x = .lst ds ∧ Q (cutL ds l h) γ3
theorem df_sl (K' : PySem.W.Frag) {lo hi : Option Expr} {tl th : TO} {wl wh : WO} {p2 : Pos} (ha : DE X a ta wa) (hl : DO X lo tl wl) (hh : DO X hi th wh) (hK : X.K = K' := by rfl) : DF X (.Subscript a (.Slice lo hi none p2) pos) (tSl (rSlL K') ta tl th) (dSl wa wl wh) := by
  subst hK
  refine ⟨pe_slice sl_list ha.pe hl.po hh.po, fun γ P P' k q => ha.se.mono γ _ _ (fun x γ1 q => hl.so.mono γ1 _ _ (fun l γ2 q => hh.so.mono γ2 _ _ (fun h γ3 ⟨ds, e, q⟩ => ⟨ds, e, k _ _ q⟩) q) q) q, fun B S H σ γ Q R q => ?_⟩
  refine ha.se.run B S H σ γ _ R (ha.se.mono γ _ _ (fun x γ1 q1 v S1 H1 R1 e1 d1 => ?_) q)
  refine hl.so.run B S1 H1 σ γ1 _ R1 (hl.so.mono γ1 _ _ (fun l γ2 q2 S2 H2 R2 e2 => ?_) q1)
  refine hh.so.run B S2 H2 σ γ2 _ R2 (hh.so.mono γ2 _ _ (fun h γ3 q3 S3 H3 R3 e3 => ?_) q2)
  obtain ⟨ds, e, q4⟩ := q3
  clear q1 q2
  subst e
  obtain ⟨p, xs, g1, g2, g3⟩ := d1.lst_inv
  subst g1
  refine ⟨p, xs, rfl, SqL.of (R3.same _ _ (e3 _ _ (e2 _ _ g2))), fun p' hp => ?_⟩
  exact q4 p' _ S3 _ (R3.newF hp) (e1.trans (e2.trans e3)) ((g3.cut l h).mono (e2.trans e3))
/-- a slice of the script -/
def dSlS (i : Nat) (wl wh : WO) : WF := fun γ Q => (∃ ns, γ[i]? = some (.scr ns)) ∧ wl γ fun l γ2 => wh γ2 fun h γ3 => ∃ ns, γ3[i]? = some (.scr ns) ∧ Q (cutL (ns.map D.int) l h) γ3
theorem df_slS (K' : PySem.W.Frag) (i : Nat) {x : Str} {px : Pos} {lo hi : Option Expr} {tl th : TO} {wl wh : WO} {p2 : Pos} (hl : DO X lo tl wl) (hh : DO X hi th wh) (hN : X.N[i]? = some x := by rfl) (hv : Vis X.env.scope x := by first | exact Or.inl rfl | exact Or.inr (Or.inl rfl) | exact Or.inr (Or.inr rfl)) (hd : (x == ("__debug__" : Str)) = false := by decide)
    (hcd : (x == ("__classdict__" : Str)) = false := by decide) (hK : X.K = K' := by rfl) : DF X (.Subscript (.Name x px) (.Slice lo hi none p2) pos) (tSl (rSlL K') (tVar i) tl th) (dSlS i wl wh) := by
  subst hK
  refine ⟨pe_slice sl_list (pe_var hN hv hd hcd) hl.po hh.po, fun γ P P' k q => ⟨q.1, hl.so.mono γ _ _ (fun l γ2 q => hh.so.mono γ2 _ _ (fun h γ3 ⟨ds, e, q⟩ => ⟨ds, e, k _ _ q⟩) q) q.2⟩, fun B S H σ γ Q R q => ?_⟩
  obtain ⟨⟨ns0, e0⟩, q⟩ := q
  obtain ⟨a0, g0, _⟩ := R.sl i _ e0
  refine ⟨_, g0, ?_⟩
  refine hl.so.run B S H σ γ _ R (hl.so.mono γ _ _ (fun l γ2 q S2 H2 R2 e2 => ?_) q)
  refine hh.so.run B S2 H2 σ γ2 _ R2 (hh.so.mono γ2 _ _ (fun h γ3 q S3 H3 R3 e3 => ?_) q)
  obtain ⟨ns, e, q⟩ := q
  obtain ⟨a1, g1, g2⟩ := R3.sl i _ e
  rw [g0] at g1
  cases g1
  refine ⟨a0, _, rfl, R3.same.seq g2, fun p' hp => ?_⟩
  exact q p' _ S3 _ (R3.newF hp) (e2.trans e3) ((DenL.ints ns).cut l h)

/-! ### calls of built-ins by values -/
/-- a call's rule by values and what it is on data -/
structure CallS (X : Xb) (r : List V → Hp → VK → Prop) (f : List D → (D → Prop) → Prop) : Prop where
  mono : ∀ ds (P P' : D → Prop), (∀ d, P d → P' d) → f ds P → f ds P'
  run : ∀ B S H σ γ (Q : VK) vs ds, Rel X B S H σ γ → DenL S vs ds → f ds (fun d => ∀ z S' H', Rel X B S' H' σ γ → Same S S' → Den S' z d → Q z H') → r vs H Q
def dCall (f : List D → (D → Prop) → Prop) (w : WA) : WE := fun γ Q => w γ fun ds γ1 => f ds fun d => Q d γ1
theorem se_call {r : List V → Hp → VK → Prop} {f : List D → (D → Prop) → Prop} {t : TA} {w : WA} (h : CallS X r f) (ha : SA X t w) : SE X (tCB r t) (dCall f w) := by
  refine ⟨fun γ P P' k q => ha.mono γ _ _ (fun ds γ1 q => h.mono ds _ _ (fun d q => k _ _ q) q) q, fun B S H σ γ Q R q => ?_⟩
  refine ha.run B S H σ γ _ R (ha.mono γ _ _ (fun ds γ1 q vs S1 H1 R1 e1 d1 => ?_) q)
  exact h.run B S1 H1 σ γ1 Q vs ds R1 d1 (h.mono _ _ _ (fun d q z S' H' R' e d' => q z S' H' R' (e1.trans e) d') q)
variable {x : Str} {es : List Expr} {t : TA} {w : WA} {p : Pos} {nm T : String}
theorem de_callB {r : List V → Hp → VK → Prop} {f : List D → (D → Prop) → Prop} (hs : CallS X r f) (hc : CallR X (.builtin nm) r) (hm : X.mg x = none) (hv : bootBuiltins x = some (.builtin nm)) (ha : DA X (e :: es) t w) (hg : Gl X x := by rfl) (hn : x ≠ "__name__" := by decide) (hdb : (x == ("__debug__" : Str)) = false := by decide)
    (he : starEach (e :: es) X.env = (false, eval e X.env) :: starEach es X.env := by rfl) (hpl : (backTo pos (starEach es X.env)).any (·.1) = false := by rfl) : DE X (.Call (.Name x p) (e :: es) [] pos) (tCB r t) (dCall f w) := ⟨pe_callB hc hg hm hv ha.pa hn hdb he hpl, se_call hs ha.sa⟩
theorem de_callTy {r : List V → Hp → VK → Prop} {f : List D → (D → Prop) → Prop} (hs : CallS X r f) (hc : CallR X (.type T) r) (hm : X.mg x = none) (hv : bootBuiltins x = some (.type T)) (ha : DA X (e :: es) t w) (hg : Gl X x := by rfl) (hn : x ≠ "__name__" := by decide) (hdb : (x == ("__debug__" : Str)) = false := by decide)
    (he : starEach (e :: es) X.env = (false, eval e X.env) :: starEach es X.env := by rfl) (hpl : (backTo pos (starEach es X.env)).any (·.1) = false := by rfl) : DE X (.Call (.Name x p) (e :: es) [] pos) (tCB r t) (dCall f w) := ⟨pe_callTy hc hg hm hv ha.pa hn hdb he hpl, se_call hs ha.sa⟩
/-- len -/
def lenD (ds : List D) (Q : D → Prop) : Prop := ∃ es, (ds = [.lst es] ∨ ds = [.tup es]) ∧ Q (.int es.length)
theorem DenL.one {S : Hp} {vs : List V} {d : D} (h : DenL S vs [d]) : ∃ v, vs = [v] ∧ Den S v d := by
  obtain ⟨v, r, rfl, h1, h2⟩ := h.cons_inv
  rw [h2.nil_inv]
  exact ⟨v, rfl, h1⟩
theorem DenL.two {S : Hp} {vs : List V} {d d' : D} (h : DenL S vs [d, d']) : ∃ v u, vs = [v, u] ∧ Den S v d ∧ Den S u d' := by
  obtain ⟨v, r, rfl, h1, h2⟩ := h.cons_inv
  obtain ⟨u, rfl, h3⟩ := h2.one
  exact ⟨v, u, rfl, h1, h3⟩
theorem cs_len : CallS X (fun xs H Q => ∃ p ys, xs = [.ref p] ∧ (SqL K H p ys ∨ SqT K H p ys) ∧ Q (.int ys.length) H) lenD := by
  refine ⟨fun ds P P' k ⟨es, e, q⟩ => ⟨es, e, k _ q⟩, fun B S H σ γ Q vs ds R d q => ?_⟩
  obtain ⟨es, e, q⟩ := q
  rcases e with e | e
  · subst e
    obtain ⟨v, rfl, d1⟩ := d.one
    obtain ⟨a, xs, rfl, g2, g3⟩ := d1.lst_inv
    refine ⟨a, xs, rfl, .inl (SqL.of (R.same _ _ g2)), ?_⟩
    rw [g3.1]
    exact q _ S H R (Same.refl S) (.int _)
  · subst e
    obtain ⟨v, rfl, d1⟩ := d.one
    obtain ⟨a, xs, rfl, g2, g3⟩ := d1.tup_inv
    refine ⟨a, xs, rfl, .inr (SqT.of (R.same _ _ g2)), ?_⟩
    rw [g3.1]
    exact q _ S H R (Same.refl S) (.int _)
/-- len of a list of one's own -/
def dLenO (i : Nat) : WE := fun γ Q => ∃ m ds, γ[i]? = some (.own m ds) ∧ Q (.int ds.length) γ
/-- sum of ints -/
def sumD (ds : List D) (Q : D → Prop) : Prop := ∃ ns : List Int, ds = [.lst (ns.map D.int)] ∧ Q (.int ns.sum)
/-- all, any of bools -/
def allD (ds : List D) (Q : D → Prop) : Prop := ∃ bs : List Bool, ds = [.lst (bs.map D.bl)] ∧ Q (.bl (bs.all id))
def anyD (ds : List D) (Q : D → Prop) : Prop := ∃ bs : List Bool, ds = [.lst (bs.map D.bl)] ∧ Q (.bl (bs.any id))
theorem cs_all : CallS X (rAll K) allD := by
  refine ⟨fun ds P P' k ⟨es, e, q⟩ => ⟨es, e, k _ q⟩, fun B S H σ γ Q vs ds R d q => ?_⟩
  obtain ⟨ns, e, q⟩ := q
  subst e
  obtain ⟨v, rfl, d1⟩ := d.one
  obtain ⟨a, xs, rfl, g2, g3⟩ := d1.lst_inv
  have e := g3.bls_inv
  subst e
  exact ⟨a, ns, rfl, SqL.of (R.same _ _ g2), q _ S H R (Same.refl S) (.bl _)⟩
/-- int(x) of an int or a bool -/
def intD (ds : List D) (Q : D → Prop) : Prop := (∃ i, ds = [.int i] ∧ Q (.int i)) ∨ ∃ b, ds = [.bl b] ∧ Q (.int (if b then 1 else 0))
theorem cs_int : CallS X (fun xs H Q => (∃ i, xs = [.int i] ∧ Q (.int i) H) ∨ ∃ k, xs = [.bl k] ∧ Q (.int (if k then 1 else 0)) H) intD := by
  refine ⟨fun ds P P' k q => ?_, fun B S H σ γ Q vs ds R d q => ?_⟩
  · rcases q with ⟨i, e, q⟩ | ⟨i, e, q⟩
    · exact .inl ⟨i, e, k _ q⟩
    · exact .inr ⟨i, e, k _ q⟩
  · rcases q with ⟨i, e, q⟩ | ⟨i, e, q⟩
    · subst e
      obtain ⟨v, rfl, d1⟩ := d.one
      cases d1
      exact .inl ⟨i, rfl, q _ S H R (Same.refl S) (.int _)⟩
    · subst e
      obtain ⟨v, rfl, d1⟩ := d.one
      cases d1
      exact .inr ⟨i, rfl, q _ S H R (Same.refl S) (.int _)⟩
end
end DL
set_option Elab.async false
set_option linter.all false
set_option autoImplicit false
set_option maxRecDepth 100000
set_option maxHeartbeats 4000000
/-! DL4: iterators, comprehensions, targets, statements. -/
namespace DL
open PySem PySem.Spec PyProof.Rows L2

/-! ### what is walked -/
structure StI (J : It) (S : Hp) (ds : List D) : Prop where
  go : ∀ i H, Same S H → i < ds.length → J.go i H
  stop : ∀ i H, Same S H → ds.length ≤ i → J.stop i H
  yld : ∀ i H x H', Same S H → i < ds.length → J.yld i H x H' → ∃ d, ds[i]? = some d ∧ ((H' = H ∧ Den S x d) ∨ ∃ T xs es, x = .ref T ∧ H T = none ∧ H' = upd H T (.tup xs) ∧ d = .tup es ∧ DenL S xs es)
structure SI (X : Xb) (t : TI) (w : WA) : Prop where
  mono : Mo w
  run : ∀ B S H σ γ (Q : It → Hp → Prop), Rel X B S H σ γ → w γ (fun ds γ' => ∀ J S' H', Rel X B S' H' σ γ' → Same S S' → StI J S' ds → Q J H') → t σ H Q
structure DI (X : Xb) (tg iter : Expr) (t : TI) (w : WA) : Prop where
  pi : PI X tg iter t
  si : SI X t w
theorem StI.mono {J : It} {S S' : Hp} {ds : List D} (h : StI J S ds) (e : Same S S') : StI J S' ds :=
  ⟨fun i H e1 hi => h.go i H (e.trans e1) hi, fun i H e1 hi => h.stop i H (e.trans e1) hi, fun i H x H' e1 hi y => by
    obtain ⟨d, hd, q⟩ := h.yld i H x H' (e.trans e1) hi y
    refine ⟨d, hd, ?_⟩
    rcases q with ⟨e2, q⟩ | ⟨T, xs, es, e2, e3, e4, e5, q⟩
    · exact .inl ⟨e2, q.mono e⟩
    · exact .inr ⟨T, xs, es, e2, e3, e4, e5, q.mono e⟩⟩
section
variable {X : Xb} {K : PySem.W.Frag} {tg a b e l : Expr} {ta tb te tl : TE} {wa wb we wl : WE} {pos p : Pos}
theorem sti_list {S : Hp} {a : Addr} {xs : List V} {ds : List D} (h : S a = some (.lst xs)) (hd : DenL S xs ds) : StI (Itl K a) S ds := by
  refine ⟨fun i H e hi => ?_, fun i H e hi => ⟨xs, SqL.of (e _ _ h), by rw [hd.1]; exact hi⟩, fun i H x H' e hi y => ?_⟩
  · have hx : i < xs.length := by rw [hd.1]; exact hi
    exact ⟨xs, xs[i], SqL.of (e _ _ h), List.getElem?_eq_getElem hx⟩
  · obtain ⟨e1, y⟩ := y
    obtain ⟨d, h1, h2⟩ := hd.getV (y xs (SqL.of (e _ _ h)))
    exact ⟨d, h1, .inl ⟨e1, h2⟩⟩
theorem sti_tup {S : Hp} {a : Addr} {xs : List V} {ds : List D} (h : S a = some (.tup xs)) (hd : DenL S xs ds) : StI (Itt K a) S ds := by
  refine ⟨fun i H e hi => ?_, fun i H e hi => ⟨xs, SqT.of (e _ _ h), by rw [hd.1]; exact hi⟩, fun i H x H' e hi y => ?_⟩
  · have hx : i < xs.length := by rw [hd.1]; exact hi
    exact ⟨xs, xs[i], SqT.of (e _ _ h), List.getElem?_eq_getElem hx⟩
  · obtain ⟨e1, y⟩ := y
    obtain ⟨d, h1, h2⟩ := hd.getV (y xs (SqT.of (e _ _ h)))
    exact ⟨d, h1, .inl ⟨e1, h2⟩⟩
/-- a list -/
def dIL (wl : WE) : WA := fun γ Q => wl γ fun x γ1 => ∃ ds, x = .lst ds ∧ Q ds γ1
theorem di_list (K' : PySem.W.Frag) (h : DE X l tl wl) (hK : X.K = K' := by rfl) : DI X tg l (iList K' tl) (dIL wl) := by
  subst hK
  refine ⟨pi_list h.pe, fun γ P P' k q => h.se.mono γ _ _ (fun x γ1 ⟨ds, e, q⟩ => ⟨ds, e, k _ _ q⟩) q, fun B S H σ γ Q R q => ?_⟩
  refine h.se.run B S H σ γ _ R (h.se.mono γ _ _ (fun x γ1 ⟨ds, e, q⟩ v S1 H1 R1 e1 d1 => ?_) q)
  subst e
  obtain ⟨a, xs, rfl, g2, g3⟩ := d1.lst_inv
  exact ⟨a, rfl, ⟨xs, SqL.of (R1.same _ _ g2)⟩, q _ S1 H1 R1 e1 (sti_list g2 g3)⟩
/-- a tuple -/
def dIT (wl : WE) : WA := fun γ Q => wl γ fun x γ1 => ∃ ds, x = .tup ds ∧ Q ds γ1
theorem di_tup (K' : PySem.W.Frag) (h : DE X l tl wl) (hK : X.K = K' := by rfl) : DI X tg l (iTup K' tl) (dIT wl) := by
  subst hK
  refine ⟨pi_tup h.pe, fun γ P P' k q => h.se.mono γ _ _ (fun x γ1 ⟨ds, e, q⟩ => ⟨ds, e, k _ _ q⟩) q, fun B S H σ γ Q R q => ?_⟩
  refine h.se.run B S H σ γ _ R (h.se.mono γ _ _ (fun x γ1 ⟨ds, e, q⟩ v S1 H1 R1 e1 d1 => ?_) q)
  subst e
  obtain ⟨a, xs, rfl, g2, g3⟩ := d1.tup_inv
  exact ⟨a, rfl, ⟨xs, SqT.of (R1.same _ _ g2)⟩, q _ S1 H1 R1 e1 (sti_tup g2 g3)⟩
/-- range(n) -/
def rngD (lo : Int) (n : Nat) : List D := (List.range n).map fun (i : Nat) => .int (lo + (i : Int))
theorem sti_rng {S : Hp} {lo : Int} {n : Nat} : StI (Itr lo n) S (rngD lo n) := by
  have hl : (rngD lo n).length = n := by simp [rngD]
  refine ⟨fun i H e hi => by rw [hl] at hi; exact hi, fun i H e hi => by rw [hl] at hi; exact hi, fun i H x H' e hi y => ?_⟩
  rw [hl] at hi
  obtain ⟨e1, y⟩ := y
  refine ⟨.int (lo + (i : Int)), ?_, .inl ⟨e1, by rw [y]; exact .int _⟩⟩
  simp [rngD, List.getElem?_map, List.getElem?_range hi]
def dIR1 (w : WA) : WA := fun γ Q => w γ fun ds γ1 => ∃ n, ds = [.int n] ∧ (-(2 ^ 62) ≤ n ∧ n < 2 ^ 62) ∧ Q (rngD 0 n.toNat) γ1
theorem di_range1 {t : TA} {w : WA} (hm : X.mg "range" = none) (ha : DA X [a] t w) (hg : Gl X "range" := by rfl) (hs : starEach [a] X.env = [(false, eval a X.env)] := by rfl) : DI X tg (.Call (.Name "range" p) [a] [] pos) (iRng1 t) (dIR1 w) := by
  refine ⟨pi_range1 hg hm ha.pa hs, fun γ P P' k q => ha.sa.mono γ _ _ (fun x γ1 ⟨n, e, c, q⟩ => ⟨n, e, c, k _ _ q⟩) q, fun B S H σ γ Q R q => ?_⟩
  refine ha.sa.run B S H σ γ _ R (ha.sa.mono γ _ _ (fun ds γ1 ⟨n, e, ⟨c1, c2⟩, q⟩ vs S1 H1 R1 e1 d1 => ?_) q)
  subst e
  obtain ⟨v, rfl, d2⟩ := d1.one
  cases d2
  exact ⟨n, rfl, c1, c2, q _ S1 H1 R1 e1 sti_rng⟩
def dIR2 (w : WA) : WA := fun γ Q => w γ fun ds γ1 => ∃ i j, ds = [.int i, .int j] ∧ (-(2 ^ 62) ≤ i ∧ i < 2 ^ 62 ∧ -(2 ^ 62) ≤ j ∧ j < 2 ^ 62) ∧ Q (rngD i (j - i).toNat) γ1
/-- enumerate(list), zip(list, list) -/
def enumD (ds : List D) : List D := ds.zipIdx.map fun q => .tup [.int (q.2 : Nat), q.1]
theorem enumD_len (ds : List D) : (enumD ds).length = ds.length := by simp [enumD]
theorem enumD_get {ds : List D} {i : Nat} {d : D} (h : ds[i]? = some d) : (enumD ds)[i]? = some (.tup [.int (i : Nat), d]) := by
  simp [enumD, List.getElem?_map, List.getElem?_zipIdx, h]
def dIEn (w : WA) : WA := fun γ Q => w γ fun ds γ1 => ∃ es, ds = [.lst es] ∧ Q (enumD es) γ1
theorem di_enum (K' : PySem.W.Frag) {elts : List Expr} {kk : Nat} {tpos : Pos} {t : TA} {w : WA} (hm : X.mg "enumerate" = none) (ha : DA X [e] t w) (hg : Gl X "enumerate" := by rfl) (hs : starEach [e] X.env = [(false, eval e X.env)] := by rfl) (hK : X.K = K' := by rfl) : DI X (.Tuple elts kk tpos) (.Call (.Name "enumerate" p) [e] [] pos) (iEnum K' t) (dIEn w) := by
  subst hK
  refine ⟨pi_enum hg hm ha.pa hs, fun γ P P' k q => ha.sa.mono γ _ _ (fun x γ1 ⟨n, e, q⟩ => ⟨n, e, k _ _ q⟩) q, fun B S H σ γ Q R q => ?_⟩
  refine ha.sa.run B S H σ γ _ R (ha.sa.mono γ _ _ (fun ds γ1 ⟨es, e, q⟩ vs S1 H1 R1 e1 d1 => ?_) q)
  subst e
  obtain ⟨v, rfl, d2⟩ := d1.one
  obtain ⟨a, xs, rfl, g2, g3⟩ := d2.lst_inv
  refine ⟨a, xs, rfl, SqL.of (R1.same _ _ g2), q _ S1 H1 R1 e1 ?_⟩
  refine ⟨fun i H e hi => ?_, fun i H e hi => ⟨xs, SqL.of (e _ _ g2), by rw [g3.1, ← enumD_len]; exact hi⟩, fun i H x H' e hi y => ?_⟩
  · rw [enumD_len] at hi
    have hx : i < xs.length := by rw [g3.1]; exact hi
    exact ⟨xs, xs[i], SqL.of (e _ _ g2), List.getElem?_eq_getElem hx⟩
  · obtain ⟨T, x1, f1, f2, f3, f4⟩ := y
    obtain ⟨d, h1, h2⟩ := g3.getV (f4 xs (SqL.of (e _ _ g2)))
    exact ⟨_, enumD_get h1, .inr ⟨T, _, _, f1, f2, f3, rfl, .cons (.int _) (.cons h2 .nil)⟩⟩
def zipD (xs ys : List D) : List D := List.zipWith (fun a b => .tup [a, b]) xs ys
def dIZ (w : WA) : WA := fun γ Q => w γ fun ds γ1 => ∃ es fs, ds = [.lst es, .lst fs] ∧ Q (zipD es fs) γ1
/-- the script -/
def dIS (i : Nat) : WA := fun γ Q => ∃ ns, γ[i]? = some (.scr ns) ∧ Q (ns.map D.int) γ
end

/-! ### targets -/
abbrev WG := D → List Sl → (List Sl → Prop) → Prop
abbrev WGs := List D → List Sl → (List Sl → Prop) → Prop
structure SG (X : Xb) (g : TG) (w : WG) : Prop where
  mono : ∀ d γ (P P' : List Sl → Prop), (∀ γ', P γ' → P' γ') → w d γ P → w d γ P'
  run : ∀ B S H σ γ v d (Q : L2.St → Hp → Prop), Rel X B S H σ γ → Den S v d → w d γ (fun γ' => ∀ σ', Rel X B S H σ' γ' → Q σ' H) → g v σ H Q
structure SGs (X : Xb) (g : TGs) (w : WGs) : Prop where
  mono : ∀ ds γ (P P' : List Sl → Prop), (∀ γ', P γ' → P' γ') → w ds γ P → w ds γ P'
  run : ∀ B S H σ γ vs ds (Q : L2.St → Hp → Prop), Rel X B S H σ γ → DenL S vs ds → w ds γ (fun γ' => ∀ σ', Rel X B S H σ' γ' → Q σ' H) → g vs σ H Q
/-- only the slots vs are stored -/
def GIn (g : TG) (vs : List Nat) : Prop := ∀ v σ H (Q : L2.St → Hp → Prop), g v σ H Q → g v σ H fun σ' H' => wipe σ' vs = wipe σ vs ∧ Q σ' H'
def GsIn (g : TGs) (vs : List Nat) : Prop := ∀ xs σ H (Q : L2.St → Hp → Prop), g xs σ H Q → g xs σ H fun σ' H' => wipe σ' vs = wipe σ vs ∧ Q σ' H'
structure DG (X : Xb) (tg : Expr) (g : TG) (w : WG) : Prop where
  pg : PG X tg g
  sg : SG X g w
structure DGs (X : Xb) (es : List Expr) (g : TGs) (w : WGs) : Prop where
  pg : PGs X es g
  sg : SGs X g w
theorem wipe_set {σ : L2.St} {j : Nat} {x : Option V} : ∀ {vs : List Nat}, j ∈ vs → wipe (σ.set j x) vs = wipe σ vs
  | v :: vs, h => by
    show (wipe (σ.set j x) vs).set v none = (wipe σ vs).set v none
    by_cases hj : j ∈ vs
    · rw [wipe_set hj]
    · have e : v = j := by
        rcases List.mem_cons.mp h with h | h
        · exact h.symm
        · exact absurd h hj
      subst e
      have : ∀ (vs : List Nat), v ∉ vs → wipe (σ.set v x) vs = (wipe σ vs).set v x := by
        intro vs
        induction vs with
        | nil => intro _; rfl
        | cons u us ih =>
          intro hv
          show (wipe (σ.set v x) us).set u none = ((wipe σ us).set u none).set v x
          rw [ih (fun z => hv (List.mem_cons_of_mem _ z)), List.set_comm]
          intro z
          exact hv (by rw [z]; exact List.mem_cons_self)
      rw [this vs hj, List.set_set]
section
variable {X : Xb} {K : PySem.W.Frag} {pos : Pos}
def dName (i : Nat) : WG := fun d γ Q => Q (γ.set i (.val d))
theorem dg_name {i : Nat} {x : Str} (hN : X.N.Nodup) (hi : X.N[i]? = some x := by rfl) (hx : Loc X.env.scope x := by first | exact Or.inl rfl | exact Or.inr rfl) (hf : X.fn x = true ∨ X.env.scope.names.lookup x = some .local := by first | exact .inl rfl | exact .inr rfl | assumption) : DG X (.Name x pos) (gName i) (dName i) :=
  ⟨pg_name hN hi hx hf, fun d γ P P' k q => k _ q, fun B S H σ γ v d Q R h q => q _ (R.set ⟨v, rfl, h⟩ rfl)⟩
theorem gin_name {i : Nat} {vs : List Nat} (h : i ∈ vs) : GIn (gName i) vs := fun v σ H Q q => ⟨wipe_set h, q⟩
def dgNil : WGs := fun ds γ Q => ds = [] ∧ Q γ
def dgCons (w : WG) (w' : WGs) : WGs := fun ds γ Q => ∃ d r, ds = d :: r ∧ w d γ fun γ1 => w' r γ1 Q
theorem dgs_nil : DGs X [] gNil dgNil := ⟨pgs_nil, fun ds γ P P' k q => ⟨q.1, k _ q.2⟩, fun B S H σ γ vs ds Q R h q => by
  obtain ⟨e, q⟩ := q
  subst e
  exact ⟨h.nil_inv, q σ R⟩⟩
theorem dgs_cons {e : Expr} {es : List Expr} {g : TG} {u : TGs} {w : WG} {w' : WGs} (h : DG X e g w) (h' : DGs X es u w') (hs : (assignEach (e :: es) X.env).map (·.2) = assign e X.env :: (assignEach es X.env).map (·.2) := by rfl) : DGs X (e :: es) (gCons g u) (dgCons w w') :=
  ⟨pgs_cons h.pg h'.pg hs, fun ds γ P P' k ⟨d, r, e, q⟩ => ⟨d, r, e, h.sg.mono _ _ _ _ (fun γ1 q => h'.sg.mono _ _ _ _ k q) q⟩, fun B S H σ γ vs ds Q R hd q => by
  obtain ⟨d, r, e, q⟩ := q
  subst e
  obtain ⟨x, t, rfl, h1, h2⟩ := hd.cons_inv
  refine ⟨x, t, rfl, h.sg.run B S H σ γ x d _ R h1 (h.sg.mono _ _ _ _ (fun γ1 q σ1 R1 => ?_) q)⟩
  exact h'.sg.run B S H σ1 γ1 t r _ R1 h2 (h'.sg.mono _ _ _ _ (fun γ2 q σ2 R2 => q σ2 R2) q)⟩
def dgTup (n : Nat) (w : WGs) : WG := fun d γ Q => ∃ ds, d = .tup ds ∧ ds.length = n ∧ w ds γ Q
theorem dg_tup (K' : PySem.W.Frag) {es : List Expr} {k : Nat} {t : TGs} {w : WGs} {n : Nat} (hc : X.calm = true) (h : DGs X es t w)
    (hn : (assignEach es X.env).length = n := by rfl) (hst : (assignEach es X.env).findIdx? (·.1) = none := by rfl) (hK : X.K = K' := by rfl) : DG X (.Tuple es k pos) (gTup K' n t) (dgTup n w) := by
  subst hK
  exact ⟨pg_tup hc h.pg hn hst, fun d γ P P' k ⟨ds, e, l, q⟩ => ⟨ds, e, l, h.sg.mono _ _ _ _ k q⟩, fun B S H σ γ v d Q R hd q => by
  obtain ⟨ds, e, l, q⟩ := q
  subst e
  obtain ⟨a, xs, rfl, g2, g3⟩ := hd.tup_inv
  exact ⟨a, xs, rfl, SqT.of (R.same _ _ g2), g3.1.trans l, h.sg.run B S H σ γ xs ds Q R g3 q⟩⟩
end

/-! ### comprehensions -/
def wipeG (γ : List Sl) : List Nat → List Sl
  | [] => γ
  | v :: vs => (wipeG γ vs).set v .any
theorem Rel.wipe {X : Xb} {B : Bs} {S H : Hp} {σ : L2.St} {γ : List Sl} (R : Rel X B S H σ γ) : ∀ vs : List Nat, Rel X B S H σ (wipeG γ vs)
  | [] => R
  | v :: vs => (R.wipe vs).drop
theorem wipeG_len (γ : List Sl) : ∀ vs : List Nat, (wipeG γ vs).length = γ.length
  | [] => rfl
  | v :: vs => by unfold wipeG; rw [List.length_set, wipeG_len γ vs]
theorem wipeG_at {γ : List Sl} {j : Nat} (hj : j < γ.length) : ∀ {vs : List Nat}, j ∈ vs → (wipeG γ vs)[j]? = some .any
  | v :: vs, h => by
    unfold wipeG
    by_cases e : v = j
    · subst e; rw [List.getElem?_set_self (by rw [wipeG_len]; exact hj)]
    · rw [List.getElem?_set_ne e]
      exact wipeG_at hj (by rcases List.mem_cons.mp h with h | h; exact absurd h.symm e; exact h)
theorem wipe_get {σ : L2.St} {j : Nat} : ∀ {vs : List Nat}, j ∉ vs → (L2.wipe σ vs)[j]? = σ[j]?
  | [], _ => rfl
  | v :: vs, h => by
    unfold L2.wipe
    rw [List.getElem?_set_ne (fun z => h (by rw [z]; exact List.mem_cons_self)), wipe_get (fun z => h (List.mem_cons_of_mem _ z))]
/-- other values in slots of which nothing is known -/
theorem Rel.other {X : Xb} {B : Bs} {S H : Hp} {σ σ' : L2.St} {γ : List Sl} (R : Rel X B S H σ γ) (hl : σ'.length = σ.length) (h : ∀ (i : Nat) s, γ[i]? = some s → s ≠ Sl.any → σ'[i]? = σ[i]?) : Rel X B S H σ' γ := by
  obtain ⟨φ, r⟩ := R.r
  refine R.with ?_ (Same.refl S)
  refine ⟨φ, r.same, r.keep, r.muk, r.grow, r.ext, hl.trans r.len, fun i s e => ?_, r.phH, r.phS, r.phD, r.phO, r.frm, r.frn, r.spS⟩
  by_cases hs : s = Sl.any
  · subst hs; trivial
  · rw [h i _ e hs]; exact r.sl i _ e
theorem Rel.wiped {X : Xb} {B : Bs} {S H : Hp} {σ : L2.St} {γ : List Sl} {vs : List Nat} (R : Rel X B S H σ γ) (h : ∀ v ∈ vs, ∀ s, γ[v]? = some s → s = .any) : Rel X B S H (L2.wipe σ vs) γ :=
  R.other (wipe_length σ vs) fun i s e hs => wipe_get fun hi => hs (h i hi s e)
theorem Rel.unwiped {X : Xb} {B : Bs} {S H : Hp} {σ : L2.St} {γ : List Sl} {vs : List Nat} (R : Rel X B S H (L2.wipe σ vs) γ) (h : ∀ v ∈ vs, ∀ s, γ[v]? = some s → s = .any) : Rel X B S H σ γ :=
  R.other (wipe_length σ vs).symm fun i s e hs => (wipe_get fun hi => hs (h i hi s e)).symm
theorem wipeG_any {γ : List Sl} {vs : List Nat} : ∀ v ∈ vs, ∀ s, (wipeG γ vs)[v]? = some s → s = .any := fun v hv s e => by
  by_cases hj : v < γ.length
  · rw [wipeG_at hj hv] at e; exact (Option.some.inj e).symm
  · rw [List.getElem?_eq_none (by rw [wipeG_len]; omega)] at e; cases e
structure STs (X : Xb) (t : TT) (w : WT) : Prop where
  st : ST X t w
structure DTs (X : Xb) (ifs : List Expr) (t : TT) (w : WT) : Prop where
  pt : PTs X ifs t
  st : ST X t w
def dYes : WT := fun γ Q => Q true γ
theorem dts_nil {X : Xb} : DTs X [] tYes dYes := ⟨pts_nil, fun γ P P' k q => k _ _ q, fun B S H σ γ Q R q => q S H R (Same.refl S)⟩
theorem dts_one {X : Xb} {c : Expr} {t : TT} {w : WT} (h : DT X c t w) : DTs X [c] t w := ⟨pts_one h.pt, h.st⟩
def dLc (wi : WA) (wg : WG) (wt : WT) (we : WE) (vs : List Nat) : WF := fun γ Q => wi γ fun ds γ1 => ds.length ≤ sizeLine ∧ (∀ v ∈ vs, ∀ s, γ1[v]? = some s → s = .any) ∧ ∃ I : Nat → List D → List Sl → Prop, I 0 [] γ1 ∧
  (∀ i acc γ d, ds[i]? = some d → I i acc γ → (∀ v ∈ vs, ∀ s, γ[v]? = some s → s = .any) ∧ wg d γ fun γ2 => wt γ2 fun b γ3 => if b = true then we γ3 fun y γ4 => I (i + 1) (acc ++ [y]) (wipeG γ4 vs) else I (i + 1) acc (wipeG γ3 vs)) ∧
  ∀ acc γ, I ds.length acc γ → (∀ v ∈ vs, ∀ s, γ[v]? = some s → s = .any) ∧ Q acc γ
theorem wipe_wipe {σ : L2.St} : ∀ (vs us : List Nat), (∀ v ∈ vs, v ∈ us) → L2.wipe (L2.wipe σ us) vs = L2.wipe σ us
  | [], _, _ => rfl
  | v :: vs, us, h => by
    show (L2.wipe (L2.wipe σ us) vs).set v none = _
    rw [wipe_wipe vs us fun u hu => h u (List.mem_cons_of_mem _ hu)]
    have : ∀ us : List Nat, v ∈ us → (L2.wipe σ us).set v none = L2.wipe σ us := by
      intro us
      induction us with
      | nil => intro z; cases z
      | cons u us ih =>
        intro hv
        show ((L2.wipe σ us).set u none).set v none = (L2.wipe σ us).set u none
        by_cases e : u = v
        · subst e; rw [List.set_set]
        · rw [List.set_comm _ _ e, ih (by rcases List.mem_cons.mp hv with z | z; exact absurd z.symm e; exact z)]
    exact this us (h v List.mem_cons_self)
section
variable {X : Xb} {K : PySem.W.Frag}
section
variable {s0 : Shared} {H0 : Hp} {sc : Scope} {env : Env} {fp : List Addr}
theorem SE.ofBlk {t : TE} {w : WE} (h : SE (X.blk s0 H0 sc env fp) t w) : SE X t w := ⟨h.mono, fun B S H σ γ Q R q => h.run B S H σ γ Q R.toBlk (h.mono _ _ _ (fun d γ' q v S' H' R' e dn => q v S' H' R'.ofBlk e dn) q)⟩
theorem ST.ofBlk {t : TT} {w : WT} (h : ST (X.blk s0 H0 sc env fp) t w) : ST X t w := ⟨h.mono, fun B S H σ γ Q R q => h.run B S H σ γ Q R.toBlk (h.mono _ _ _ (fun d γ' q S' H' R' e => q S' H' R'.ofBlk e) q)⟩
theorem SG.ofBlk {g : TG} {w : WG} (h : SG (X.blk s0 H0 sc env fp) g w) : SG X g w := ⟨h.mono, fun B S H σ γ v d Q R dn q => h.run B S H σ γ v d Q R.toBlk dn (h.mono _ _ _ _ (fun γ' q σ' R' => q σ' R'.ofBlk) q)⟩
theorem SI.ofBlk {t : TI} {w : WA} (h : SI (X.blk s0 H0 sc env fp) t w) : SI X t w := ⟨h.mono, fun B S H σ γ Q R q => h.run B S H σ γ Q R.toBlk (h.mono _ _ _ (fun ds γ' q J S' H' R' e hJ => q J S' H' R'.ofBlk e hJ) q)⟩
end
theorem sf_lc {ti : TI} {wi : WA} {g : TG} {wg : WG} {tt : TT} {wt : WT} {te : TE} {we : WE} {vs : List Nat} (hi : SI X ti wi) (hg : SG X g wg) (hgi : GIn g vs) (hgm : ∀ v σ H (P P' : L2.St → Hp → Prop), (∀ σ' H', P σ' H' → P' σ' H') → g v σ H P → g v σ H P') (ht : ST X tt wt) (he : SE X te we) : SF X (tLc ti g tt te vs) (dLc wi wg wt we vs) := by
  refine ⟨fun γ P P' k q => hi.mono γ _ _ (fun ds γ1 ⟨hz, ha, I, h0, hs, hd⟩ => ⟨hz, ha, I, h0, hs, fun acc γ q => ⟨(hd acc γ q).1, k _ _ (hd acc γ q).2⟩⟩) q, fun B S H σ γ Q R q => ?_⟩
  refine hi.run B S H σ γ _ R (hi.mono γ _ _ (fun ds γ1 ⟨hz, ha, I, h0, hs, hd⟩ J S1 H1 R1 e1 hJ A hA => ?_) q)
  refine ⟨fun i m H => m = ds.length - i ∧ i ≤ ds.length ∧ ∃ S2 γ2 acc xs, Rel X (B.fram A (.lst xs)) S2 H (L2.wipe σ vs) γ2 ∧ Same S1 S2 ∧ I i acc γ2 ∧ acc.length ≤ i ∧ DenL S2 xs acc, ⟨ds.length, by simp, Nat.zero_le _, S1, γ1, [], [], (R1.newF hA).wiped ha, Same.refl S1, h0, Nat.le_refl _, .nil⟩, ?_⟩
  rintro i m H2 ⟨rfl, hi2, S2, γ2, acc, xs, R2, e2, hI, hal, k5⟩
  by_cases hlt : i < ds.length
  · refine .inr ⟨(hJ.mono e2).go i H2 R2.same hlt, fun H' => i + 1 ≤ ds.length ∧ ∃ S3 γ3 acc xs, Rel X (B.fram A (.lst xs)) S3 H' (L2.wipe σ vs) γ3 ∧ Same S1 S3 ∧ I (i + 1) acc γ3 ∧ acc.length ≤ i + 1 ∧ DenL S3 xs acc, fun H' q => ⟨_, by omega, rfl, q⟩, fun x H' y => ?_⟩
    obtain ⟨d, hdi, hy⟩ := (hJ.mono e2).yld i H2 x H' R2.same hlt y
    obtain ⟨hany, body⟩ := hs i acc γ2 d hdi hI
    -- the item's heap
    obtain ⟨S3, R3, e3, d3⟩ : ∃ S3, Rel X (B.fram A (.lst xs)) S3 H' (L2.wipe σ vs) γ2 ∧ Same S2 S3 ∧ Den S3 x d := by
      rcases hy with ⟨f1, f2⟩ | ⟨T, ys, es, f1, f2, f3, f4, f5⟩
      · subst f1; exact ⟨S2, R2, Same.refl S2, f2⟩
      · subst f1 f3 f4
        have e4 : Same S2 (upd S2 T (.tup ys)) := Same.upd (Same.refl S2) (R2.freshS f2)
        exact ⟨_, R2.new f2, e4, .ofT upd_same (f5.mono e4)⟩
    refine hgm _ _ _ _ _ (fun σ4 H4 ⟨w4, q4⟩ => ⟨w4.trans (wipe_wipe vs vs fun _ h => h), q4 (w4.trans (wipe_wipe vs vs fun _ h => h))⟩) (hgi _ _ _ (fun σ4 H4 => L2.wipe σ4 vs = L2.wipe σ vs → tt σ4 H4 _) ?_)
    refine hg.run _ S3 H' _ γ2 x d _ R3 d3 (hg.mono _ _ _ _ (fun γ4 body σ4 R4 w4 => ?_) body)
    refine ht.run _ S3 H' σ4 γ4 _ R4 (ht.mono _ _ _ (fun b γ5 body S5 H5 R5 e5 => ?_) body)
    have back : ∀ {S6 : Hp} {H6 : Hp} {γ6 : List Sl}, Rel X (B.fram A (.lst xs)) S6 H6 σ4 γ6 → Rel X (B.fram A (.lst xs)) S6 H6 (L2.wipe σ vs) (wipeG γ6 vs) := fun {S6 H6 γ6} R6 => by
      have W := (R6.wipe vs).wiped wipeG_any
      rw [w4] at W
      exact W
    cases b with
    | false => exact ⟨hlt, S5, _, acc, xs, back R5, e2.trans (e3.trans e5), body, by omega, k5.mono (e3.trans e5)⟩
    | true =>
      refine he.run _ S5 H5 σ4 γ5 _ R5 (he.mono _ _ _ (fun y γ6 body v S6 H6 R6 e6 d6 => ?_) body)
      have W := back R6
      have e7 : Same S2 S6 := e3.trans (e5.trans e6)
      exact ⟨xs, W.unfram.2.1, by rw [k5.1]; omega, hlt, S6, _, acc ++ [y], xs ++ [v], W.chgF, e2.trans e7, body, by rw [List.length_append, List.length_singleton]; omega, (k5.mono e7).snoc d6⟩
  · have e : i = ds.length := by omega
    subst e
    obtain ⟨g1, g2⟩ := hd acc γ2 hI
    exact .inl ⟨(hJ.mono e2).stop _ H2 R2.same (Nat.le_refl _), g2 A xs S2 H2 (R2.unwiped g1) (e1.trans e2) k5⟩
end
end DL
set_option Elab.async false
set_option linter.all false
set_option autoImplicit false
set_option maxRecDepth 100000
set_option maxHeartbeats 4000000
/-! DL5: comprehensions as expressions, statements, defs by their data, calls. -/
namespace DL
open PySem PySem.Spec PyProof.Rows L2

/-- targets of names and pairs of names do what is wanted monotonically -/
def GMo (g : TG) : Prop := ∀ v σ H (P P' : L2.St → Hp → Prop), (∀ σ' H', P σ' H' → P' σ' H') → g v σ H P → g v σ H P'
def GsMo (g : TGs) : Prop := ∀ v σ H (P P' : L2.St → Hp → Prop), (∀ σ' H', P σ' H' → P' σ' H') → g v σ H P → g v σ H P'
theorem gmo_name {i : Nat} : GMo (gName i) := fun v σ H P P' k q => k _ _ q
section
variable {X : Xb} {K : PySem.W.Frag}
theorem df_lc {elt tg iter : Expr} {ifs : List Expr} {scope : Scope} {own : List (Str × Nat)} {pos : Pos} {ti : TI} {wi : WA} {g : TG} {wg : WG} {tt : TT} {wt : WT} {te : TE} {we : WE} (hc : X.calm = true) (hN : X.N.Nodup) (hi : DI X tg iter ti wi) (ok : BlkOk X.N X.env.scope scope own)
    (hg : ∀ (s : Shared) (H : Hp) (C : Addr) (cl : List (Str × Addr)) (fp : List Addr), DG (X.blk s H scope (compEnvC scope cl C X.env) fp) tg g wg) (hgi : GIn g (own.map (·.2))) (hgm : GMo g)
    (ht : ∀ (s : Shared) (H : Hp) (C : Addr) (cl : List (Str × Addr)) (fp : List Addr), DTs (X.blk s H scope (compEnvC scope cl C X.env) fp) ifs tt wt)
    (he : ∀ (s : Shared) (H : Hp) (C : Addr) (cl : List (Str × Addr)) (fp : List Addr), DE (X.blk s H scope (compEnvC scope cl C X.env) fp) elt te we) (hs : ∀ x, foldedSetIterable iter X.env x = pure x := by intro _; rfl) :
    DF X (.ListComp elt [⟨tg, iter, ifs, 0⟩] scope pos) (tLc ti g tt te (own.map (·.2))) (dLc wi wg wt we (own.map (·.2))) :=
  ⟨pe_lc hc hN hi.pi ok (fun s H C cl fp => (hg s H C cl fp).pg) (fun s H C cl fp => (ht s H C cl fp).pt) (fun s H C cl fp => (he s H C cl fp).pe) hs,
   sf_lc hi.si (hg X.s_0 X.H_0 0 [] []).sg.ofBlk hgi hgm (ht X.s_0 X.H_0 0 [] []).st.ofBlk (he X.s_0 X.H_0 0 [] []).se.ofBlk⟩

/-- a datum without parts -/
def flat : D → Prop
  | .lst _ => False
  | .tup _ => False
  | .obj _ _ => False
  | .emp => False
  | _ => True
theorem Den.flat {S S' : Hp} {v : V} {d : D} (h : Den S v d) (f : flat d) : Den S' v d := by
  cases h with
  | non => exact .non
  | bl b => exact .bl b
  | int i => exact .int i
  | str s => exact .str s
  | lst h hl hs => cases f
  | tup h hl hs => cases f
  | obj h hl hn hs => cases f
  | emp h => cases f
  | ref p => exact .ref p
def flats (ds : List D) : Prop := ∀ d ∈ ds, flat d
theorem DenL.flat {S S' : Hp} {xs : List V} {ds : List D} (h : DenL S xs ds) (f : flats ds) : DenL S' xs ds := ⟨h.1, fun i x d h1 h2 => (h.2 i x d h1 h2).flat (f d (List.mem_of_getElem? h2))⟩
/-- what is put into a list: the caller's lists take flat things alone -/
theorem own_den {B : Bs} {S S1 : Hp} {m : Bool} {v : V} {d : D} (h : Den S v d) (f : m = true → DL.flat d) : Den (if m = true then B.SP else S) v d := by
  cases m with
  | true => exact h.flat (f rfl)
  | false => exact h
theorem own_old {B : Bs} {S : Hp} {m : Bool} {p : Addr} {xs : List V} {ds : List D} (h : DenL S xs ds) (f : m = true → p ∈ B.mu ∧ DenL B.SP xs ds) : DenL (if m = true then B.SP else S) xs ds := by
  cases m with
  | true => exact (f rfl).2
  | false => exact h
/-! ### statements -/
inductive Rv where
  | d (d : D) | f (ds : List D) | o (C : Addr) (fs : List (Str × D))
def Rv.val : Rv → D
  | .d x => x | .f xs => .lst xs | .o C fs => .obj C fs
def RvOk (B : Bs) (S H : Hp) (v : V) : Rv → Prop
  | .d d => Den S v d
  | .f ds => ∃ p xs, v = .ref p ∧ S p = none ∧ B.H0 p = none ∧ H p = some (.lst xs) ∧ DenL S xs ds
  | .o C fs => ∃ p dx vs, v = .ref p ∧ S p = none ∧ B.H0 p = none ∧ H p = some (.ins C dx vs) ∧ DenF S vs fs
structure EndsD where
  nx : List Sl → Prop
  rt : Rv → List Sl → Prop
  bk : List Sl → Prop := fun _ => False
  ct : List Sl → Prop := fun _ => False
abbrev WS := EndsD → List Sl → Prop
structure Link (X : Xb) (B : Bs) (S0 : Hp) (Dd : EndsD) (D : Ends) : Prop where
  nx : ∀ S H σ γ, Same S0 S → Rel X B S H σ γ → Dd.nx γ → D.nx σ H
  rt : ∀ S H σ γ v r, Same S0 S → Rel X B S H σ γ → RvOk B S H v r → Dd.rt r γ → D.rt v H
  bk : ∀ S H σ γ, Same S0 S → Rel X B S H σ γ → Dd.bk γ → D.bk σ H
  ct : ∀ S H σ γ, Same S0 S → Rel X B S H σ γ → Dd.ct γ → D.ct σ H
structure SS (X : Xb) (t : TS) (w : WS) : Prop where
  run : ∀ B S0 S H σ γ Dd D, Rel X B S H σ γ → Same S0 S → Link X B S0 Dd D → w Dd γ → t D σ H
structure DS (X : Xb) (st : Stmt) (t : TS) (w : WS) : Prop where
  ps : PS X st t
  ss : SS X t w
structure DSs (X : Xb) (st : List Stmt) (t : TS) (w : WS) : Prop where
  ps : PSs X st t
  ss : SS X t w
variable {e a b : Expr} {te ta tb : TE} {we wa wb : WE} {wf : WF} {pos : Pos} {st : Stmt} {rest sts : List Stmt} {t u : TS} {w w' : WS}
def dNext : WS := fun Dd γ => Dd.nx γ
theorem dss_nil : DSs X [] tNext dNext := ⟨pss_nil, ⟨fun B S0 S H σ γ Dd D R e L q => L.nx S H σ γ e R q⟩⟩
def dSeq (w w' : WS) : WS := fun Dd γ => w { Dd with nx := w' Dd } γ
theorem dss_cons (h : DS X st t w) (h' : DSs X rest u w') : DSs X (st :: rest) (tSeq t u) (dSeq w w') :=
  ⟨pss_cons h.ps h'.ps, ⟨fun B S0 S H σ γ Dd D R e L q => h.ss.run B S0 S H σ γ { Dd with nx := w' Dd } _ R e ⟨fun S1 H1 σ1 γ1 e1 R1 q1 => h'.ss.run B S0 S1 H1 σ1 γ1 Dd D R1 e1 L q1, L.rt, L.bk, L.ct⟩ q⟩⟩
theorem dss_one (h : DS X st t w) : DSs X [st] t w := ⟨pss_one h.ps, h.ss⟩
def dBrk : WS := fun Dd γ => Dd.bk γ
def dCont : WS := fun Dd γ => Dd.ct γ
/-- e -/
def dDrop (we : WE) : WS := fun Dd γ => we γ fun _ γ1 => Dd.nx γ1
theorem ds_expr (h : DE X e te we) (hs : swapsWith e none pos.line X.env = pure false := by rfl) : DS X (.Expr e pos) (tDrop te) (dDrop we) :=
  ⟨ps_expr h.pe hs, ⟨fun B S0 S H σ γ Dd D R e L q => h.se.run B S H σ γ _ R (h.se.mono γ _ _ (fun d γ1 q v S1 H1 R1 e1 d1 => L.nx S1 H1 σ γ1 (e.trans e1) R1 q) q)⟩⟩
/-- return e -/
def dRet (we : WE) : WS := fun Dd γ => we γ fun d γ1 => Dd.rt (.d d) γ1
theorem ds_ret (h : DE X e te we) : DS X (.Return (some e) pos) (tRet te) (dRet we) :=
  ⟨ps_ret h.pe, ⟨fun B S0 S H σ γ Dd D R e L q => h.se.run B S H σ γ _ R (h.se.mono γ _ _ (fun d γ1 q v S1 H1 R1 e1 d1 => L.rt S1 H1 σ γ1 v (.d d) (e.trans e1) R1 d1 q) q)⟩⟩
def dRetF (wf : WF) : WS := fun Dd γ => wf γ fun ds γ1 => Dd.rt (.f ds) γ1
theorem ds_retF (h : DF X e te wf) : DS X (.Return (some e) pos) (tRet te) (dRetF wf) :=
  ⟨ps_ret h.pe, ⟨fun B S0 S H σ γ Dd D R e L q => h.sf.run B S H σ γ _ R (h.sf.mono γ _ _ (fun ds γ1 q p xs S1 H1 R1 e1 k4 => let ⟨U, u1, u2, u3⟩ := R1.unfram; L.rt S1 H1 σ γ1 (.ref p) (.f ds) (e.trans e1) U ⟨p, xs, rfl, u2, u3, u1, k4⟩ q) q)⟩⟩
/-- return of a list of one's own, at a name -/
def dRetO (i : Nat) : WS := fun Dd γ => ∃ ds, γ[i]? = some (.own false ds) ∧ Dd.rt (.f ds) (γ.set i .any)
theorem ds_retO (i : Nat) {x : Str} {px : Pos} (hN : X.N[i]? = some x := by rfl) (hv : Vis X.env.scope x := by first | exact Or.inl rfl | exact Or.inr (Or.inl rfl) | exact Or.inr (Or.inr rfl)) (hd : (x == ("__debug__" : Str)) = false := by decide)
    (hcd : (x == ("__classdict__" : Str)) = false := by decide) : DS X (.Return (some (.Name x px)) pos) (tRet (tVar i)) (dRetO i) :=
  ⟨ps_ret (pe_var hN hv hd hcd), ⟨fun B S0 S H σ γ Dd D R e L ⟨ds, g, q⟩ => by
    obtain ⟨p, xs, g1, g4, R1⟩ := R.takeOwn g
    obtain ⟨U, u1, u2, u3⟩ := R1.unfram
    exact ⟨_, g1, L.rt S H σ _ (.ref p) (.f ds) e U ⟨p, xs, rfl, u2, u3, u1, g4⟩ q⟩⟩⟩
def dRetN : WS := fun Dd γ => Dd.rt (.d .non) γ
/-- x = e -/
def dSet (i : Nat) (we : WE) : WS := fun Dd γ => we γ fun d γ1 => Dd.nx (γ1.set i (.val d))
theorem ds_set {i : Nat} {x : Str} {px : Pos} (hN : X.N.Nodup) (h : DE X e te we) (hi : X.N[i]? = some x := by rfl) (hx : Loc X.env.scope x := by first | exact Or.inl rfl | exact Or.inr rfl) (hs : swapsWith e (some (.Name x px)) pos.line X.env = pure false := by rfl)
    (hf : X.fn x = true ∨ X.env.scope.names.lookup x = some .local := by first | exact .inl rfl | exact .inr rfl | assumption) : DS X (.Assign [.Name x px] e pos) (tAsg te (gName i)) (dSet i we) :=
  ⟨ps_set hN hi hx h.pe hs hf, ⟨fun B S0 S H σ γ Dd D R e L q => h.se.run B S H σ γ _ R (h.se.mono γ _ _ (fun d γ1 q v S1 H1 R1 e1 d1 => L.nx S1 H1 _ _ (e.trans e1) (R1.set (s := .val d) ⟨v, rfl, d1⟩ rfl) q) q)⟩⟩
/-- x = a new list, kept as one's own -/
def dSetO (i : Nat) (wf : WF) : WS := fun Dd γ => wf γ fun ds γ1 => Dd.nx (γ1.set i (.own false ds))
theorem ds_setO {i : Nat} {x : Str} {px : Pos} (hN : X.N.Nodup) (h : DF X e te wf) (hi : X.N[i]? = some x := by rfl) (hx : Loc X.env.scope x := by first | exact Or.inl rfl | exact Or.inr rfl) (hs : swapsWith e (some (.Name x px)) pos.line X.env = pure false := by rfl)
    (hf : X.fn x = true ∨ X.env.scope.names.lookup x = some .local := by first | exact .inl rfl | exact .inr rfl | assumption) : DS X (.Assign [.Name x px] e pos) (tAsg te (gName i)) (dSetO i wf) :=
  ⟨ps_set hN hi hx h.pe hs hf, ⟨fun B S0 S H σ γ Dd D R e L q => h.sf.run B S H σ γ _ R (h.sf.mono γ _ _ (fun ds γ1 q p xs S1 H1 R1 e1 k4 => L.nx S1 H1 _ _ (e.trans e1) (R1.setOwn k4) q) q)⟩⟩
/-- x = [..], the comprehension given to a name on one line -/
theorem ds_setLc {i : Nat} {y : Str} {py : Pos} {elt tg iter : Expr} {ifs : List Expr} {scope : Scope} {own : List (Str × Nat)} {pos spos : Pos} {ti : TI} {wi : WA} {g : TG} {wg : WG} {tt : TT} {wt : WT} {te : TE} {we : WE} (hc : X.calm = true) (hN : X.N.Nodup)
    (hi : DI X tg iter ti wi) (ok : BlkOk X.N X.env.scope scope own)
    (hg : ∀ (s : Shared) (H : Hp) (C : Addr) (cl : List (Str × Addr)) (fp : List Addr), DG (X.blk s H scope (compEnvC scope cl C X.env) fp) tg g wg) (hgi : GIn g (own.map (·.2))) (hgm : GMo g)
    (ht : ∀ (s : Shared) (H : Hp) (C : Addr) (cl : List (Str × Addr)) (fp : List Addr), DTs (X.blk s H scope (compEnvC scope cl C X.env) fp) ifs tt wt)
    (he : ∀ (s : Shared) (H : Hp) (C : Addr) (cl : List (Str × Addr)) (fp : List Addr), DE (X.blk s H scope (compEnvC scope cl C X.env) fp) elt te we)
    (hy : X.N[i]? = some y := by rfl) (hyl : X.env.scope.names.lookup y = some .local := by rfl)
    (hsw : swapsWith (.ListComp elt [⟨tg, iter, ifs, 0⟩] scope pos) (some (.Name y py)) spos.line X.env = pure true := by exact sw_true rfl rfl rfl (by decide +kernel)) (hs : ∀ x, foldedSetIterable iter X.env x = pure x := by intro _; rfl) :
    DS X (.Assign [.Name y py] (.ListComp elt [⟨tg, iter, ifs, 0⟩] scope pos) spos) (tAsg (tLc ti g tt te (own.map (·.2))) (gName i)) (dSetO i (dLc wi wg wt we (own.map (·.2)))) :=
  have h : SF X (tLc ti g tt te (own.map (·.2))) (dLc wi wg wt we (own.map (·.2))) := sf_lc hi.si (hg X.s_0 X.H_0 0 [] []).sg.ofBlk hgi hgm (ht X.s_0 X.H_0 0 [] []).st.ofBlk (he X.s_0 X.H_0 0 [] []).se.ofBlk
  ⟨ps_setLc hc hN hy hyl hsw hi.pi ok (fun s H C cl fp => (hg s H C cl fp).pg) (fun s H C cl fp => (ht s H C cl fp).pt) (fun s H C cl fp => (he s H C cl fp).pe) hs,
   ⟨fun B S0 S H σ γ Dd D R e L q => h.run B S H σ γ _ R (h.mono γ _ _ (fun ds γ1 q p xs S1 H1 R1 e1 k4 => L.nx S1 H1 _ _ (e.trans e1) (R1.setOwn k4) q) q)⟩⟩
/-- the list of one's own in slot i is a value from here on -/
def dFrz (i : Nat) (w : WS) : WS := fun Dd γ => ∃ ds, γ[i]? = some (.own false ds) ∧ w Dd (γ.set i (.val (.lst ds)))
theorem dss_frz (i : Nat) (h : DSs X sts t w) : DSs X sts t (dFrz i w) := ⟨h.ps, ⟨fun B S0 S H σ γ Dd D R e L ⟨ds, g, q⟩ => by
  obtain ⟨S', p, e1, e2, R', dn⟩ := R.val g
  exact h.ss.run B S0 S' H σ _ Dd D R' (e.trans e2) L q⟩⟩
/-- a, b = .. -/
def dAsg (we : WE) (wg : WG) : WS := fun Dd γ => we γ fun d γ1 => wg d γ1 Dd.nx
theorem ds_asg {tg : Expr} {g : TG} {wg : WG} (h : DE X e te we) (hg : DG X tg g wg) (hs : swapsWithSole [tg] e pos.line X.env = pure false := by rfl) (hw : swappedStores [tg] e X.env = pure none := by rfl)
    (h1 : (assignEach [tg] X.env).map (·.2) = [assign tg X.env] := by rfl) : DS X (.Assign [tg] e pos) (tAsg te g) (dAsg we wg) :=
  ⟨ps_asg h.pe hg.pg hs hw h1, ⟨fun B S0 S H σ γ Dd D R e L q => h.se.run B S H σ γ _ R (h.se.mono γ _ _ (fun d γ1 q v S1 H1 R1 e1 d1 => hg.sg.run B S1 H1 σ γ1 v d _ R1 d1 (hg.sg.mono _ _ _ _ (fun γ2 q σ2 R2 => L.nx S1 H1 σ2 γ2 (e.trans e1) R2 q) q)) q)⟩⟩
/-- xs[k] = e, xs of one's own -/
def dStI (i : Nat) (we wk : WE) : WS := fun Dd γ => we γ fun d γ1 => (∃ m ds, γ1[i]? = some (.own m ds)) ∧ wk γ1 fun k γ2 => ∃ n m ds j, k = .int n ∧ γ2[i]? = some (.own m ds) ∧ ixN ds.length n = some j ∧ (m = true → flat d) ∧ Dd.nx (γ2.set i (.own m (ds.set j d)))
theorem ds_sub (i : Nat) {x : Str} {px ps : Pos} {k : Expr} {tk : TE} {wk : WE} (h : DE X e te we) (hk : DE X k tk wk) (hN : X.N[i]? = some x := by rfl) (hv : Vis X.env.scope x := by first | exact Or.inl rfl | exact Or.inr (Or.inl rfl) | exact Or.inr (Or.inr rfl)) (hd : (x == ("__debug__" : Str)) = false := by decide)
    (hcd : (x == ("__classdict__" : Str)) = false := by decide) (ha : ∀ v, assign (.Subscript (.Name x px) k ps) X.env v = (do
      let ov ← holding [v] (eval (.Name x px) X.env)
      let iv ← holding [v, ov] (eval k X.env)
      standAt ps
      holding [v, ov, iv] (setItem ov iv v)
      release [v, ov, iv] []) := by intro _; rfl) (hs : swapsWithSole [.Subscript (.Name x px) k ps] e pos.line X.env = pure false := by rfl) (hw : swappedStores [.Subscript (.Name x px) k ps] e X.env = pure none := by rfl)
    (h1 : (assignEach [.Subscript (.Name x px) k ps] X.env).map (·.2) = [assign (.Subscript (.Name x px) k ps) X.env] := by rfl) : DS X (.Assign [.Subscript (.Name x px) k ps] e pos) (tAsg te (gSub (tVar i) tk rSetL)) (dStI i we wk) :=
  ⟨ps_asg h.pe (pg_sub (pe_var hN hv hd hcd) hk.pe set_list ha) hs hw h1, ⟨fun B S0 S H σ γ Dd D R e L q => h.se.run B S H σ γ _ R (h.se.mono γ _ _ (fun d γ1 ⟨⟨m0, ds0, g0⟩, q⟩ v S1 H1 R1 e1 d1 => by
    obtain ⟨p0, xs0, f0, _⟩ := R1.sl i _ g0
    refine ⟨_, f0, ?_⟩
    refine hk.se.run B S1 H1 σ γ1 _ R1 (hk.se.mono γ1 _ _ (fun y γ2 ⟨n, m, ds, j, k1, k2, k3, kf, q⟩ u S2 H2 R2 e2 d2 => ?_) q)
    subst k1
    cases d2
    obtain ⟨p, xs, g1, g2, g3, g4, g5⟩ := R2.sl i _ k2
    rw [f0] at g1
    cases g1
    refine ⟨p0, xs, n, j, rfl, rfl, g3, by rw [g4.1]; exact k3, ?_⟩
    exact L.nx S2 _ σ _ (e.trans (e1.trans e2)) (R2.chg k2 f0 ((own_old g4 g5).set (own_den (S1 := S2) (d1.mono e2) kf) j)) q) q)⟩⟩
/-- xs.append(e) -/
def dApp (i : Nat) (we : WE) : WS := fun Dd γ => (∃ m ds, γ[i]? = some (.own m ds)) ∧ we γ fun d γ1 => ∃ m ds, γ1[i]? = some (.own m ds) ∧ ds.length < sizeLine ∧ (m = true → flat d) ∧ Dd.nx (γ1.set i (.own m (ds ++ [d])))
theorem ds_app (i : Nat) {x : Str} {px p1 p2 : Pos} (hpe : PE X e te → PE X (.Call (.Attribute (.Name x px) "append" p1) [e] [] p2) (tBM X.K "list" rAppend (tVar i) (tCons te tNil))) (h : DE X e te we)
    (hs : swapsWith (.Call (.Attribute (.Name x px) "append" p1) [e] [] p2) none pos.line X.env = pure false := by rfl) : DS X (.Expr (.Call (.Attribute (.Name x px) "append" p1) [e] [] p2) pos) (tDrop (tBM X.K "list" rAppend (tVar i) (tCons te tNil))) (dApp i we) :=
  ⟨ps_expr (hpe h.pe) hs, ⟨fun B S0 S H σ γ Dd D R e L ⟨⟨m0, ds0, g0⟩, q⟩ => by
    obtain ⟨p0, xs0, f0, f1, f2, f3⟩ := R.sl i _ g0
    refine ⟨_, f0, .inl ⟨rfl, _, SqL.of f2⟩, ?_⟩
    refine h.se.run B S H σ γ _ R (h.se.mono γ _ _ (fun d γ1 ⟨m, ds, k1, k2, kf, q⟩ v S1 H1 R1 e1 d1 => ?_) q)
    obtain ⟨p, xs, g1, g2, g3, g4, g5⟩ := R1.sl i _ k1
    rw [f0] at g1
    cases g1
    exact ⟨p0, xs, v, rfl, rfl, g3, by rw [g4.1]; exact k2, L.nx S1 _ σ _ (e.trans e1) (R1.chg k1 f0 ((own_old g4 g5).snoc (own_den (S1 := S1) d1 kf))) q⟩⟩⟩
/-- xs.extend(e) -/
def dExt (i : Nat) (we : WE) : WS := fun Dd γ => (∃ m ds, γ[i]? = some (.own m ds)) ∧ we γ fun d γ1 => ∃ es m ds, d = .lst es ∧ γ1[i]? = some (.own m ds) ∧ ds.length + es.length ≤ sizeLine ∧ (m = true → flats es) ∧ Dd.nx (γ1.set i (.own m (ds ++ es)))
/-- x += e of ints -/
def dAug (i : Nat) (f : Int → Int → Int) (we : WE) : WS := fun Dd γ => ∃ n, γ[i]? = some (.val (.int n)) ∧ we γ fun d γ1 => ∃ k, d = .int k ∧ Dd.nx (γ1.set i (.val (.int (f n k))))
theorem ds_aug {i : Nat} {x : Str} {px : Pos} {op : Operator} {f : Int → Int → Int} (hN : X.N.Nodup) (ho : PIp X op (ipI f)) (h : DE X e te we) (hi : X.N[i]? = some x := by rfl) (hx : Loc X.env.scope x := by first | exact Or.inl rfl | exact Or.inr rfl)
    (hf : X.fn x = true ∨ X.env.scope.names.lookup x = some .local := by first | exact .inl rfl | exact .inr rfl | assumption) : DS X (.AugAssign (.Name x px) op e pos) (tAug i te (ipI f)) (dAug i f we) :=
  ⟨ps_aug hN hi hx h.pe ho hf, ⟨fun B S0 S H σ γ Dd D R e L ⟨n, g, q⟩ => by
    obtain ⟨v, g1, g2⟩ := R.sl i _ g
    cases g2
    refine ⟨_, g1, ?_⟩
    refine h.se.run B S H σ γ _ R (h.se.mono γ _ _ (fun d γ1 ⟨k, k0, q⟩ v S1 H1 R1 e1 d1 => ?_) q)
    subst k0
    cases d1
    exact ⟨n, k, rfl, rfl, L.nx S1 _ _ _ (e.trans e1) (R1.set (s := .val (.int (f n k))) ⟨_, rfl, .int _⟩ rfl) q⟩⟩⟩
/-- if -/
def dIf (wc : WT) (w w' : WS) : WS := fun Dd γ => wc γ fun b γ1 => if b = true then w Dd γ1 else w' Dd γ1
theorem ds_if {c : Expr} {p q : List Stmt} {tc : TT} {wc : WT} (hc : DT X c tc wc) (h : DSs X p t w) (h' : DSs X q u w') : DS X (.If c p q pos) (tIfS tc t u) (dIf wc w w') :=
  ⟨ps_if hc.pt h.ps h'.ps, ⟨fun B S0 S H σ γ Dd D R e L q => hc.st.run B S H σ γ _ R (hc.st.mono γ _ _ (fun b γ1 q S1 H1 R1 e1 => by
    cases b with
    | true => exact h.ss.run B S0 S1 H1 σ γ1 Dd D R1 (e.trans e1) L q
    | false => exact h'.ss.run B S0 S1 H1 σ γ1 Dd D R1 (e.trans e1) L q) q)⟩⟩
/-- an if whose ways meet: what is known behind it is said once -/
def dCut (w w' : WS) : WS := fun Dd γ => ∃ M : List Sl → Prop, w { Dd with nx := M } γ ∧ ∀ γ', M γ' → w' Dd γ'
theorem dss_cut (h : DS X st t w) (h' : DSs X rest u w') : DSs X (st :: rest) (tSeq t u) (dCut w w') :=
  ⟨pss_cons h.ps h'.ps, ⟨fun B S0 S H σ γ Dd D R e L ⟨M, q, k⟩ => h.ss.run B S0 S H σ γ { Dd with nx := M } _ R e ⟨fun S1 H1 σ1 γ1 e1 R1 q1 => h'.ss.run B S0 S1 H1 σ1 γ1 Dd D R1 e1 L (k _ q1), L.rt, L.bk, L.ct⟩ q⟩⟩
/-- for -/
def dFor (wi : WA) (wg : WG) (wb : WS) : WS := fun Dd γ => wi γ fun ds γ1 => ∃ I : Nat → List Sl → Prop, I 0 γ1 ∧ (∀ i d γ, ds[i]? = some d → I i γ → wg d γ fun γ2 => wb { Dd with nx := I (i + 1), ct := I (i + 1), bk := Dd.nx } γ2) ∧ ∀ γ, I ds.length γ → Dd.nx γ
theorem ss_for {ti : TI} {wi : WA} {g : TG} {wg : WG} {tb : TS} {wb : WS} (hi : SI X ti wi) (hg : SG X g wg) (hb : SS X tb wb) : SS X (tFor ti g tb) (dFor wi wg wb) := by
  refine ⟨fun B S0 S H σ γ Dd D R e L q => ?_⟩
  refine hi.run B S H σ γ _ R (hi.mono γ _ _ (fun ds γ1 ⟨I, h0, hs, hd⟩ J S1 H1 R1 e1 hJ => ?_) q)
  refine ⟨fun i m σ H => m = ds.length - i ∧ i ≤ ds.length ∧ ∃ S2 γ2, Rel X B S2 H σ γ2 ∧ Same S1 S2 ∧ I i γ2, ⟨ds.length, by simp, Nat.zero_le _, S1, γ1, R1, Same.refl S1, h0⟩, ?_⟩
  rintro i m σ2 H2 ⟨rfl, hi2, S2, γ2, R2, e2, hI⟩
  by_cases hlt : i < ds.length
  · refine .inr ⟨(hJ.mono e2).go i H2 R2.same hlt, fun σ' H' => i + 1 ≤ ds.length ∧ ∃ S3 γ3, Rel X B S3 H' σ' γ3 ∧ Same S1 S3 ∧ I (i + 1) γ3, fun σ' H' q => ⟨_, by omega, rfl, q⟩, fun x H' y => ?_⟩
    obtain ⟨d, hdi, hy⟩ := (hJ.mono e2).yld i H2 x H' R2.same hlt y
    have body := hs i d γ2 hdi hI
    obtain ⟨S3, R3, e3, d3⟩ : ∃ S3, Rel X B S3 H' σ2 γ2 ∧ Same S2 S3 ∧ Den S3 x d := by
      rcases hy with ⟨f1, f2⟩ | ⟨T, ys, es, f1, f2, f3, f4, f5⟩
      · subst f1; exact ⟨S2, R2, Same.refl S2, f2⟩
      · subst f1 f3 f4
        have e4 : Same S2 (upd S2 T (.tup ys)) := Same.upd (Same.refl S2) (R2.freshS f2)
        exact ⟨_, R2.new f2, e4, .ofT upd_same (f5.mono e4)⟩
    refine hg.run B S3 H' σ2 γ2 x d _ R3 d3 (hg.mono _ _ _ _ (fun γ4 body σ4 R4 => ?_) body)
    have e5 : Same S1 S3 := e2.trans e3
    have e6 : Same S0 S1 := e.trans e1
    refine hb.run B S3 S3 H' σ4 γ4 { Dd with nx := I (i + 1), ct := I (i + 1), bk := Dd.nx } _ R4 (Same.refl S3) ⟨fun S6 H6 σ6 γ6 k R6 q => ⟨hlt, S6, γ6, R6, e5.trans k, q⟩, fun S6 H6 σ6 γ6 v r k R6 rv q => L.rt S6 H6 σ6 γ6 v r (e6.trans (e5.trans k)) R6 rv q, fun S6 H6 σ6 γ6 k R6 q => L.nx S6 H6 σ6 γ6 (e6.trans (e5.trans k)) R6 q, fun S6 H6 σ6 γ6 k R6 q => ⟨hlt, S6, γ6, R6, e5.trans k, q⟩⟩ body
  · have e' : i = ds.length := by omega
    subst e'
    exact .inl ⟨(hJ.mono e2).stop _ H2 R2.same (Nat.le_refl _), L.nx S2 H2 σ2 γ2 ((e.trans e1).trans e2) R2 (hd γ2 hI)⟩
theorem ds_for {tg iter : Expr} {body : List Stmt} {ti : TI} {wi : WA} {g : TG} {wg : WG} {tb : TS} {wb : WS} (hp : PassesOwn (model X.prog X.w) X.A X.env X.xe) (hc : X.calm = true) (hi : DI X tg iter ti wi) (hg : DG X tg g wg) (hb : DSs X body tb wb)
    (hs : ∀ x, foldedSetIterable iter X.env x = pure x := by intro _; rfl) : DS X (.For tg iter body [] pos) (tFor ti g tb) (dFor wi wg wb) :=
  ⟨ps_for hp hc hi.pi hg.pg hb.ps hs, ss_for hi.si hg.sg hb.ss⟩
end

/-! ### defs -/
structure SpecD where
  S : List D → (Rv → Prop) → Prop
  mono : ∀ ds P P', (∀ r, P r → P' r) → S ds P → S ds P'
/-- a promise by parameters: the arguments, what is asked, what comes -/
def SpecD.of {α : Type} (args : α → List D) (pre : α → Prop) (post : α → Rv → Prop) : SpecD := ⟨fun ds Q => ∃ a, ds = args a ∧ pre a ∧ ∀ r, post a r → Q r, fun ds P P' k ⟨a, e, h, q⟩ => ⟨a, e, h, fun r hr => k r (q r hr)⟩⟩
structure SpecP where
  S : List D → List D → (Rv → List D → Prop) → Prop
  mono : ∀ pl ds P P', (∀ r pl, P r pl → P' r pl) → S pl ds P → S pl ds P'
def SpecP.of {α : Type} (args : α → List D) (pool : List D → Prop) (pre : α → Prop) (post : α → Rv → Prop) : SpecP :=
  ⟨fun pl ds Q => pool pl ∧ ∃ a, ds = args a ∧ pre a ∧ ∀ r pl', post a r → pool pl' → Q r pl', fun pl ds P P' k ⟨h0, a, e, h, q⟩ => ⟨h0, a, e, h, fun r pl' hr hp => k r pl' (q r pl' hr hp)⟩⟩
def spV (K : PySem.W.Frag) (s : SpecD) : Sp := fun vs H Q _ => ∃ S ds, Same S H ∧ DenL S vs ds ∧ s.S ds fun r => ∀ v S' H', Rel0 K ⟨H, S, [], [], emptyH⟩ S' H' [] [] → RvOk ⟨H, S, [], [], emptyH⟩ S' H' v r → Q v H'
def spP (K : PySem.W.Frag) (s : SpecP) : Sp := fun vs H Q _ => ∃ S SP p xs pl vs' ds, vs = .ref p :: vs' ∧ Same S H ∧ Same SP S ∧ S p = none ∧ H p = some (.lst xs) ∧ DenL SP xs pl ∧ DenL S vs' ds ∧
  s.S pl ds fun r pl' => ∀ v S' H' xs', Rel0 K ⟨H, S, [p], [], SP⟩ S' H' [] [] → S' p = none → H' p = some (.lst xs') → DenL SP xs' pl' → RvOk ⟨H, S, [p], [], SP⟩ S' H' v r → Q v H'
section
variable {K : PySem.W.Frag} {B : Bs} {S S' H H' : Hp} {σ : L2.St} {γ : List Sl}
end
section
variable {X : Xb} {K : PySem.W.Frag} {f : Addr} {fd : FuncData} {ps : List Str} {k : Nat} {x : Str} {e : Expr} {es : List Expr} {t : TA} {w : WA} {p pos : Pos}
def dCallS (s : SpecD) (w : WA) : WE := fun γ Q => w γ fun ds γ1 => s.S ds fun r => Q r.val γ1
theorem se_callS {s : SpecD} {t : TA} {w : WA} (h : SA X t w) : SE X (tCall (spV X.K s) [] E0 t) (dCallS s w) := by
  refine ⟨fun γ P P' k q => h.mono γ _ _ (fun ds γ1 q => s.mono _ _ _ (fun r q => k _ _ q) q) q, fun B S H σ γ Q R q => ?_⟩
  refine h.run B S H σ γ _ R (h.mono γ _ _ (fun ds γ1 q vs S1 H1 R1 e1 d1 => ?_) q)
  rw [List.append_nil]
  refine ⟨S1, ds, R1.same, d1, s.mono _ _ _ (fun r q v S' H' C rv => ?_) q⟩
  cases r with
  | d d => exact q v S' H' (R1.call C) (e1.trans C.grow) rv
  | f ds' =>
    obtain ⟨a, xs, rfl, k1, k2, k3, k4⟩ := rv
    have k2' : H1 a = none := k2
    have e6 : Same S' (upd S' a (.lst xs)) := Same.upd (Same.refl S') k1
    exact q (.ref a) _ H' (R1.callN C k2' k3 k1).frzF (e1.trans (C.grow.trans e6)) (.ofL upd_same (k4.mono e6))
  | o C' fs =>
    obtain ⟨a, dx, xs, rfl, k1, k2, k3, k4⟩ := rv
    have k2' : H1 a = none := k2
    have e6 : Same S' (upd S' a (.ins C' dx xs)) := Same.upd (Same.refl S') k1
    exact q (.ref a) _ H' (R1.callN C k2' k3 k1).frzF (e1.trans (C.grow.trans e6)) (.ofO upd_same (k4.mono e6))
def dCallF (s : SpecD) (w : WA) : WF := fun γ Q => w γ fun ds γ1 => s.S ds fun r => ∃ es, r = .f es ∧ Q es γ1
theorem sf_callF {s : SpecD} {t : TA} {w : WA} (h : SA X t w) : SF X (tCall (spV X.K s) [] E0 t) (dCallF s w) := by
  refine ⟨fun γ P P' k q => h.mono γ _ _ (fun ds γ1 q => s.mono _ _ _ (fun r ⟨es, e, q⟩ => ⟨es, e, k _ _ q⟩) q) q, fun B S H σ γ Q R q => ?_⟩
  refine h.run B S H σ γ _ R (h.mono γ _ _ (fun ds γ1 q vs S1 H1 R1 e1 d1 => ?_) q)
  rw [List.append_nil]
  refine ⟨S1, ds, R1.same, d1, s.mono _ _ _ (fun r ⟨es, e, q⟩ v S' H' C rv => ?_) q⟩
  subst e
  obtain ⟨a, xs, rfl, k1, k2, k3, k4⟩ := rv
  have k2' : H1 a = none := k2
  exact q a xs S' H' (R1.callN C k2' k3 k1) (e1.trans C.grow) k4
theorem de_call (K' : PySem.W.Frag) {s : SpecD} (F : FnOk X.prog X.w X.K X.mg X.base CX0 k f fd ps (spV K' s)) (hr : Room k X.A) (hm : X.mg x = some (.ref f)) (hk : PySem.W.keepIn X.K (.ref f) = true) (hb : Binds X.K fd ps []) (ha : DA X (e :: es) t w) (hg : Gl X x := by rfl)
    (hdb : (x == ("__debug__" : Str)) = false := by decide) (he : starEach (e :: es) X.env = (false, eval e X.env) :: starEach es X.env := by rfl) (hpl : (backTo pos (starEach es X.env)).any (·.1) = false := by rfl) (hK : X.K = K' := by rfl) : DE X (.Call (.Name x p) (e :: es) [] pos) (tCall (spV K' s) [] E0 t) (dCallS s w) := by
  subst hK
  exact ⟨pe_call F hr hg hm hk hb .nil pass0 ha.pa hdb he hpl, se_callS ha.sa⟩
theorem df_call (K' : PySem.W.Frag) {s : SpecD} (F : FnOk X.prog X.w X.K X.mg X.base CX0 k f fd ps (spV K' s)) (hr : Room k X.A) (hm : X.mg x = some (.ref f)) (hk : PySem.W.keepIn X.K (.ref f) = true) (hb : Binds X.K fd ps []) (ha : DA X (e :: es) t w) (hg : Gl X x := by rfl)
    (hdb : (x == ("__debug__" : Str)) = false := by decide) (he : starEach (e :: es) X.env = (false, eval e X.env) :: starEach es X.env := by rfl) (hpl : (backTo pos (starEach es X.env)).any (·.1) = false := by rfl) (hK : X.K = K' := by rfl) : DF X (.Call (.Name x p) (e :: es) [] pos) (tCall (spV K' s) [] E0 t) (dCallF s w) := by
  subst hK
  exact ⟨pe_call F hr hg hm hk hb .nil pass0 ha.pa hdb he hpl, sf_callF ha.sa⟩
/-- a call that draws from the list in slot i -/
def dCallP (i : Nat) (s : SpecP) (w : WA) : WE := fun γ Q => (∃ m pl, γ[i]? = some (.own m pl)) ∧ w γ fun ds γ1 => ∃ m pl, γ1[i]? = some (.own m pl) ∧ s.S pl ds fun r pl' => Q r.val (γ1.set i (.own m pl'))
theorem se_callP {i : Nat} {s : SpecP} {t : TA} {w : WA} (h : SA X t w) : SE X (tCall (spP X.K s) [] E0 (tCons (tVar i) t)) (dCallP i s w) := by
  refine ⟨fun γ P P' k q => ⟨q.1, h.mono γ _ _ (fun ds γ1 ⟨m, pl, e, q⟩ => ⟨m, pl, e, s.mono _ _ _ _ (fun r pl' q => k _ _ q) q⟩) q.2⟩, fun B S H σ γ Q R q => ?_⟩
  obtain ⟨⟨m0, pl0, g0⟩, q⟩ := q
  obtain ⟨p0, xs0, f0, _⟩ := R.sl i _ g0
  refine ⟨_, f0, ?_⟩
  refine h.run B S H σ γ _ R (h.mono γ _ _ (fun ds γ1 ⟨m, pl, g, q⟩ vs S1 H1 R1 e1 d1 => ?_) q)
  show spP X.K s ((.ref p0 :: vs) ++ []) H1 Q E0
  rw [List.append_nil]
  obtain ⟨p, xs, g1, g2, g3, g4, g5⟩ := R1.sl i _ g
  rw [f0] at g1
  cases g1
  have spS : Same (if m = true then B.SP else S1) S1 := by
    obtain ⟨φ, r⟩ := R1.r
    cases m with
    | true => exact r.spS.trans r.grow
    | false => exact Same.refl _
  refine ⟨S1, (if m = true then B.SP else S1), p0, xs, pl, vs, ds, rfl, R1.same, spS, g2, g3, own_old g4 g5, d1, s.mono _ _ _ _ (fun r pl' q v S' H' xs' C k1 k2 k3' rv => ?_) q⟩
  have k3 : DenL (if m = true then B.SP else S') xs' pl' := by
    cases m with
    | true => exact k3'
    | false => exact DenL.mono k3' C.grow
  have R2 := R1.callP g f0 C k1 k2 k3
  cases r with
  | d d => exact q v S' H' R2 (e1.trans C.grow) rv
  | f ds' =>
    obtain ⟨a, ys, rfl, l1, l2, l3, l4⟩ := rv
    have l2' : H1 a = none := l2
    have e6 : Same S' (upd S' a (.lst ys)) := Same.upd (Same.refl S') l1
    exact q (.ref a) _ H' (R1.callPN g f0 C k1 k2 k3 l2' l3 l1).frzF (e1.trans (C.grow.trans e6)) (.ofL upd_same (l4.mono e6))
  | o C' fs =>
    obtain ⟨a, dx, ys, rfl, l1, l2, l3, l4⟩ := rv
    have l2' : H1 a = none := l2
    have e6 : Same S' (upd S' a (.ins C' dx ys)) := Same.upd (Same.refl S') l1
    exact q (.ref a) _ H' (R1.callPN g f0 C k1 k2 k3 l2' l3 l1).frzF (e1.trans (C.grow.trans e6)) (.ofO upd_same (l4.mono e6))
theorem de_callP (K' : PySem.W.Frag) (i : Nat) {s : SpecP} {y : Str} {py : Pos} (F : FnOk X.prog X.w X.K X.mg X.base CX0 k f fd ps (spP K' s)) (hr : Room k X.A) (hm : X.mg x = some (.ref f)) (hk : PySem.W.keepIn X.K (.ref f) = true) (hb : Binds X.K fd ps []) (ha : DA X es t w) (hN : X.N[i]? = some y := by rfl) (hv : Vis X.env.scope y := by first | exact Or.inl rfl | exact Or.inr (Or.inl rfl) | exact Or.inr (Or.inr rfl)) (hd : (y == ("__debug__" : Str)) = false := by decide)
    (hcd : (y == ("__classdict__" : Str)) = false := by decide) (hg : Gl X x := by rfl)
    (hdb : (x == ("__debug__" : Str)) = false := by decide) (he : starEach (.Name y py :: es) X.env = (false, eval (.Name y py) X.env) :: starEach es X.env := by rfl) (hpl : (backTo pos (starEach es X.env)).any (·.1) = false := by rfl) (hK : X.K = K' := by rfl) : DE X (.Call (.Name x p) (.Name y py :: es) [] pos) (tCall (spP K' s) [] E0 (tCons (tVar i) t)) (dCallP i s w) := by
  subst hK
  exact ⟨pe_call F hr hg hm hk hb .nil pass0 (pa_cons (pe_var hN hv hd hcd) ha.pa he) hdb he hpl, se_callP ha.sa⟩
end

/-! ### a def's body to its promise -/
def gam (N : List Str) (ds : List D) : List Sl := ds.map .val ++ List.replicate (N.length - ds.length) .any
section
variable {P : Program} {w : World} {K : PySem.W.Frag} {mg : Str → Option Value} {base : Heap} {x qual : Str} {st : Stmt} {f : Addr} {fd : FuncData} {N ps : List Str} {k : Nat}
theorem gam_may {N : List Str} {ds : List D} {i : Nat} {s : Sl} (h : (gam N ds)[i]? = some s) : s.may = none := by
  unfold gam at h
  by_cases hi : i < ds.length
  · rw [List.getElem?_append_left (by simpa using hi), List.getElem?_map] at h
    rw [List.getElem?_eq_getElem hi] at h
    cases h
    rfl
  · rw [List.getElem?_append_right (by simpa using hi), List.getElem?_replicate] at h
    split at h
    · cases h; rfl
    · cases h
theorem start_rel {H S : Hp} {vs : List V} {ds : List D} (e : Same S H) (hd : DenL S vs ds) : Rel0 K ⟨H, S, [], [], emptyH⟩ S H (L2.start N vs) (gam N ds) := by
  refine ⟨fun _ => emptyH, e, fun a o h _ => h, fun a ha => (by cases ha), Same.refl S, fun a o h => .inl h, ?_, fun i s h => ?_, fun i a o e => (by cases e), fun i a o e => (by cases e), fun i j a o u _ e => (by cases e), fun i a o e => (by cases e), fun p o hp => (by cases hp), List.nodup_nil, fun a o e => (by cases e)⟩
  · unfold L2.start gam
    simp [hd.1]
  · have hm := gam_may h
    unfold gam at h
    by_cases hi : i < ds.length
    · rw [List.getElem?_append_left (by simpa using hi), List.getElem?_map] at h
      obtain ⟨d, hdi⟩ : ∃ d, ds[i]? = some d := ⟨_, List.getElem?_eq_getElem hi⟩
      rw [hdi] at h
      cases h
      obtain ⟨v, hv, dn⟩ := hd.get hdi
      refine ⟨v, ?_, dn⟩
      unfold L2.start
      rw [List.getElem?_append_left (by simpa [hd.1] using hi), List.getElem?_map, hv]
      rfl
    · rw [List.getElem?_append_right (by simpa using hi), List.getElem?_replicate] at h
      split at h
      · cases h; trivial
      · cases h
/-- THE RULE for a def that raises nothing -/
theorem fn_ok {s : SpecD} (F : Fun K x qual st f fd) (Sc : FnScope N ps (defScope st)) (len : ∀ ds Q, s.S ds Q → ds.length = ps.length)
    (hbody : ∀ (cdv : Value) (A : Around) (outer : List Env) (s0 : Shared) (H : Hp) (E : XK), Room k (A.deeper (envOfC qual (defScope st) s0.heap.objs.size f cdv)) →
      ∃ t w', DSs (Xb.of (cxOf CX0 P w K mg base N qual (defScope st) f cdv A outer s0 H E).nox) (defBody st) t w' ∧ ∀ ds Q, s.S ds Q → w' { nx := fun _ => Q (.d .non), rt := fun r _ => Q r } (gam N ds)) : FnOk P w K mg base CX0 (k + 1) f fd ps (spV K s) := by
  refine F.ok Sc (fun vs H Q E h => ?_) (fun cdv A outer s0 H vs Q E hr h => ?_)
  · obtain ⟨S, ds, e, hd, q⟩ := h
    rw [hd.1]
    exact len _ _ q
  · obtain ⟨S, ds, e, hd, q⟩ := h
    obtain ⟨t, w', h1, h2⟩ := hbody cdv A outer s0 H E hr
    refine ⟨t, h1.ps, ?_⟩
    exact h1.ss.run ⟨H, S, [], [], emptyH⟩ S S H (L2.start N vs) (gam N ds) { nx := fun _ => _, rt := fun r _ => _ } _ (Rel0.of (start_rel e hd)) (Same.refl S) ⟨fun S' H' σ' γ' _ R q => q _ _ _ R.nil .non, fun S' H' σ' γ' v r _ R rv q => q v _ _ R.nil rv, fun S' H' σ' γ' _ R q => q.elim, fun S' H' σ' γ' _ R q => q.elim⟩ (h2 ds _ q)
def gamP (N : List Str) (pl ds : List D) : List Sl := .own true pl :: (ds.map .val ++ List.replicate (N.length - (ds.length + 1)) .any)
theorem start_relT {H S SP : Hp} {p : Addr} {o : HO} {s : Sl} {vs : List V} {ds : List D} (e : Same S H) (eP : Same SP S) (h1 : S p = none) (h2 : H p = some o) (hs : SlF K ⟨H, S, [p], [], SP⟩ S (upd emptyH p o) (some (some (.ref p))) s) (hm : s.may = some true) (hd : DenL S vs ds) : Rel0 K ⟨H, S, [p], [], SP⟩ S H (L2.start N (.ref p :: vs)) (s :: (ds.map .val ++ List.replicate (N.length - (ds.length + 1)) .any)) := by
  have es : L2.start N (.ref p :: vs) = some (.ref p) :: (vs.map some ++ List.replicate (N.length - (vs.length + 1)) none) := rfl
  have em : ∀ {j a u}, (if j = 0 then L2.upd emptyH p o else emptyH) a = some u → j = 0 ∧ a = p ∧ u = o := fun {j a u} e => by
    by_cases hj : j = 0
    · rw [if_pos hj] at e
      by_cases ha : a = p
      · subst ha; rw [upd_same] at e; cases e; exact ⟨hj, rfl, rfl⟩
      · rw [upd_ne ha] at e; cases e
    · rw [if_neg hj] at e; cases e
  refine ⟨fun j => if j = 0 then L2.upd emptyH p o else emptyH, e, fun a o h _ => h, fun a ha => ?_, Same.refl S, fun a o h => .inl h, ?_, fun i t h => ?_, fun i a u e => ?_, fun i a u e => ?_, fun i j a u v hij e1 e2 => ?_, fun i a u e => ?_, fun p o hp => (by cases hp), List.nodup_nil, eP⟩
  · have : a = p := List.mem_singleton.mp ha
    subst this
    exact ⟨h1, ⟨_, h2⟩, o, h2⟩
  · rw [es]
    simp [hd.1]
  · rw [es]
    cases i with
    | zero => cases h; exact hs
    | succ i =>
      rw [List.getElem?_cons_succ] at h ⊢
      by_cases hi : i < ds.length
      · rw [List.getElem?_append_left (by simpa using hi), List.getElem?_map] at h
        obtain ⟨d, hdi⟩ : ∃ d, ds[i]? = some d := ⟨_, List.getElem?_eq_getElem hi⟩
        rw [hdi] at h
        cases h
        obtain ⟨v, hv, dn⟩ := hd.get hdi
        refine ⟨v, ?_, dn⟩
        rw [List.getElem?_append_left (by simpa [hd.1] using hi), List.getElem?_map, hv]
        rfl
      · rw [List.getElem?_append_right (by simpa using hi), List.getElem?_replicate] at h
        split at h
        · cases h; trivial
        · cases h
  · obtain ⟨_, z, z'⟩ := em e; subst z z'; exact h2
  · obtain ⟨_, z, z'⟩ := em e; subst z z'; exact h1
  · exact hij ((em e1).1.trans (em e2).1.symm)
  · obtain ⟨z0, z, z'⟩ := em e
    subst z0 z z'
    refine ⟨s, true, rfl, hm, .inl ⟨rfl, ?_⟩⟩
    cases s with
    | hp m L => exact List.mem_singleton.mpr rfl
    | _ => exact rfl
theorem start_relP {H S SP : Hp} {p : Addr} {xs : List V} {pl : List D} {vs : List V} {ds : List D} (e : Same S H) (eP : Same SP S) (h1 : S p = none) (h2 : H p = some (.lst xs)) (h3 : DenL SP xs pl) (hd : DenL S vs ds) : Rel0 K ⟨H, S, [p], [], SP⟩ S H (L2.start N (.ref p :: vs)) (gamP N pl ds) :=
  start_relT e eP h1 h2 (s := .own true pl) ⟨p, xs, rfl, upd_same, h3, fun _ => List.mem_singleton.mpr rfl⟩ rfl hd
/-- THE RULE for a def that draws from a list handed in first -/
theorem fn_okP {s : SpecP} (F : Fun K x qual st f fd) (Sc : FnScope N ps (defScope st)) (len : ∀ pl ds Q, s.S pl ds Q → ds.length + 1 = ps.length)
    (hbody : ∀ (cdv : Value) (A : Around) (outer : List Env) (s0 : Shared) (H : Hp) (E : XK), Room k (A.deeper (envOfC qual (defScope st) s0.heap.objs.size f cdv)) →
      ∃ t w', DSs (Xb.of (cxOf CX0 P w K mg base N qual (defScope st) f cdv A outer s0 H E).nox) (defBody st) t w' ∧ ∀ pl ds Q, s.S pl ds Q → w' { nx := fun γ => ∃ pl', γ[0]? = some (.own true pl') ∧ Q (.d .non) pl', rt := fun r γ => ∃ pl', γ[0]? = some (.own true pl') ∧ Q r pl' } (gamP N pl ds)) : FnOk P w K mg base CX0 (k + 1) f fd ps (spP K s) := by
  refine F.ok Sc (fun vs H Q E h => ?_) (fun cdv A outer s0 H vs Q E hr h => ?_)
  · obtain ⟨S, SP, p, xs, pl, vs', ds, rfl, e, eP, h1, h2, h3, hd, q⟩ := h
    rw [List.length_cons, hd.1]
    exact len _ _ _ q
  · obtain ⟨S, SP, p, xs, pl, vs', ds, rfl, e, eP, h1, h2, h3, hd, q⟩ := h
    obtain ⟨t, w', k1, k2⟩ := hbody cdv A outer s0 H E hr
    refine ⟨t, k1.ps, ?_⟩
    have fin : ∀ {S' H' : Hp} {σ' : L2.St} {γ' : List Sl} {pl' : List D}, Rel0 K ⟨H, S, [p], [], SP⟩ S' H' σ' γ' → γ'[0]? = some (.own true pl') → ∃ xs', S' p = none ∧ H' p = some (.lst xs') ∧ DenL SP xs' pl' := fun {S' H' σ' γ' pl'} R g => by
      obtain ⟨q, ys, f1, f2, f3, f4, f5⟩ := R.sl 0 _ g
      have : q = p := List.mem_singleton.mp (f5 rfl).1
      subst this
      exact ⟨ys, f2, f3, (f5 rfl).2⟩
    exact k1.ss.run ⟨H, S, [p], [], SP⟩ S S H _ (gamP N pl ds) { nx := fun γ => ∃ pl', γ[0]? = some (.own true pl') ∧ _, rt := fun r γ => ∃ pl', γ[0]? = some (.own true pl') ∧ _ } _ (Rel0.of (start_relP e eP h1 h2 h3 hd)) (Same.refl S) ⟨fun S' H' σ' γ' _ R ⟨pl', g, q⟩ => by
        obtain ⟨ys, f2, f3, f4⟩ := fin R.r g
        exact q _ _ _ ys R.nil f2 f3 f4 .non, fun S' H' σ' γ' v r _ R rv ⟨pl', g, q⟩ => by
        obtain ⟨ys, f2, f3, f4⟩ := fin R.r g
        exact q v _ _ ys R.nil f2 f3 f4 rv, fun S' H' σ' γ' _ R q => q.elim, fun S' H' σ' γ' _ R q => q.elim⟩ (k2 pl ds _ q)
end
end DL
set_option Elab.async false
set_option linter.all false
set_option autoImplicit false
set_option maxRecDepth 100000
set_option maxHeartbeats 4000000
/-! DL6: chains, isinstance, list(..), list + list, products. -/
namespace DL
open PySem PySem.Spec PyProof.Rows L2
section
variable {X : Xb} {K : PySem.W.Frag} {a b c e : Expr} {ta tb tc te : TE} {wa wb wc we : WE} {pos p : Pos}
/-! ### a op b op' c -/
def dChain (f f' : D → D → (D → Prop) → Prop) (wa wb wc : WE) : WE := fun γ Q => wa γ fun x γ1 => wb γ1 fun y γ2 => f x y fun z => ∃ k, z = .bl k ∧ if k = true then wc γ2 fun u γ3 => f' y u fun d => Q d γ3 else Q (.bl false) γ2
theorem se_chain {r r' : R2} {f f' : D → D → (D → Prop) → Prop} (ho : OpS r f) (ho' : OpS r' f') (ha : SE X ta wa) (hb : SE X tb wb) (hc : SE X tc wc) : SE X (tChain r r' ta tb tc) (dChain f f' wa wb wc) := by
  refine ⟨fun γ P P' k q => ha.mono γ _ _ (fun x γ1 q => hb.mono γ1 _ _ (fun y γ2 q => ho.mono x y _ _ (fun d ⟨b, e, q⟩ => ⟨b, e, Mo.ite (w := fun γ (Q : D → List Sl → Prop) => wc γ fun u γ3 => f' y u fun d => Q d γ3) (w' := fun γ (Q : D → List Sl → Prop) => Q (D.bl false) γ) (fun γ P P' k q => hc.mono γ _ _ (fun u γ3 q => ho'.mono _ _ _ _ (fun d q => k _ _ q) q) q) (fun _ _ _ k q => k _ _ q) k q⟩) q) q) q, fun B S H σ γ Q R q => ?_⟩
  refine ha.run B S H σ γ _ R (ha.mono γ _ _ (fun x γ1 q v S1 H1 R1 e1 d1 => ?_) q)
  refine hb.run B S1 H1 σ γ1 _ R1 (hb.mono γ1 _ _ (fun y γ2 q u S2 H2 R2 e2 d2 => ?_) q)
  refine ho.run X B S2 H2 σ γ2 _ v u x y R2 (d1.mono e2) d2 (ho.mono _ _ _ _ (fun d ⟨b, eb, q⟩ z S3 H3 R3 e3 d3 => ?_) q)
  subst eb
  cases d3
  refine ⟨b, rfl, ?_⟩
  cases b with
  | false => exact q _ S3 H3 R3 (e1.trans (e2.trans e3)) (.bl _)
  | true =>
    refine hc.run B S3 H3 σ γ2 _ R3 (hc.mono γ2 _ _ (fun t γ3 q z S4 H4 R4 e4 d4 => ?_) q)
    exact ho'.run X B S4 H4 σ γ3 Q u z y t R4 ((d2.mono e3).mono e4) d4 (ho'.mono _ _ _ _ (fun d q z' S' H' R' e' d' => q z' S' H' R' ((e1.trans (e2.trans e3)).trans (e4.trans e')) d') q)
theorem de_chain {op op' : CmpOp} {r r' : R2} {f f' : D → D → (D → Prop) → Prop} (h : OpR X (compareOp op) r) (ho : OpS r f) (h' : OpR X (compareOp op') r') (ho' : OpS r' f') (ha : DE X a ta wa) (hb : DE X b tb wb) (hc : DE X c tc wc) (hm : lastMarks [op, op'] [b, c] = false := by with_unfolding_all rfl) :
    DE X (.Compare a [op, op'] [b, c] pos) (tChain r r' ta tb tc) (dChain f f' wa wb wc) := ⟨pe_chain h h' ha.pe hb.pe hc.pe hm, se_chain ho ho' ha.se hb.se hc.se⟩
theorem dt_chain {op op' : CmpOp} {r r' : R2} {f f' : D → D → (D → Prop) → Prop} (h : OpR X (compareOp op) r) (ho : OpS r f) (h' : OpR X (compareOp op') r') (ho' : OpS r' f') (ha : DE X a ta wa) (hb : DE X b tb wb) (hc : DE X c tc wc) (hm : lastMarks [op, op'] [b, c] = false := by with_unfolding_all rfl) :
    DT X (.Compare a [op, op'] [b, c] pos) (tTest (tChain r r' ta tb tc)) (dB (dChain f f' wa wb wc)) := ⟨pt_chain h h' ha.pe hb.pe hc.pe hm, st_test (se_chain ho ho' ha.se hb.se hc.se)⟩
def fLt := dI0 fun i j => .bl (decide (i < j))
def fLe := dI0 fun i j => .bl (decide (i ≤ j))
theorem ops_lt : OpS (rI0 fun i j => .bl (decide (i < j))) fLt := ops_I0 fun _ _ _ => .bl _
theorem ops_le : OpS (rI0 fun i j => .bl (decide (i ≤ j))) fLe := ops_I0 fun _ _ _ => .bl _

/-! ### products of any ints that the machine takes -/
theorem op_mulK : OpR X (binaryOp .Mult) (rI IntMulOk fun i j => .int (i * j)) := opI fun _ _ _ _ _ _ _ hc q => mul_int q hc
abbrev dMulK := dOp (dI IntMulOk fun i j => .int (i * j))
theorem de_mulK (ha : DE X a ta wa) (hb : DE X b tb wb) : DE X (.BinOp a .Mult b pos) (tOp (rI IntMulOk fun i j => .int (i * j)) ta tb) (dMulK wa wb) := de_op op_mulK (ops_I fun _ _ _ => .int _) ha hb

/-! ### isinstance -/
/-- what is asked of an own class of the text (no class stands under it) -/
structure OwnCls (K : PySem.W.Frag) (C : Addr) : Prop where
  cl : Cls K C
  ha : PySem.W.findIn K (.ref C) "__class__" = some (some (.builtin "object.__class__"))
  hn : PySem.W.specialIn K (.builtin "object.__class__") "__get__" = some (some (.builtin "getset_descriptor.__get__"))
  htk : PySem.W.takesIn K (.builtin "object.__class__") = some true
  hm : PySem.W.mroIn K C (.type "object") = some true
  no : ∀ T ∈ tysD, PySem.W.kitOne K (.ref C) (.type T) = some false
  is : PySem.W.kitOne K (.ref C) (.ref C) = some true
  ty : ∀ T ∈ tysD, PySem.W.kitOne K (.type T) (.ref C) = some false
def tyD : D → String
  | .non => "NoneType" | .bl _ => "bool" | .int _ => "int" | .str _ => "str" | .lst _ => "list" | .tup _ => "tuple" | .obj _ _ => "object" | .emp => "dict" | .ref _ => "dict"
def tyV : D → Value
  | .obj C _ => .ref C
  | d => .type (tyD d)
/-- the datum's class is known -/
def okC (K : PySem.W.Frag) : D → Prop
  | .obj C _ => OwnCls K C
  | .ref _ => False
  | _ => True
theorem den_ty {S H : Hp} {v : V} {d : D} (h : Den S v d) (e : Same S H) (ok : okC K d) : TyX K H v (tyV d) := by
  cases h with
  | non => exact .base .non
  | bl b => exact .base (.bl b)
  | int i => exact .base (.int i)
  | str s => exact .base (.str s)
  | lst h hl hs => exact .base (.lst (e _ _ h))
  | tup h hl hs => exact .base (.tup (e _ _ h))
  | obj h hl hn hs => exact .base (.ins (e _ _ h) ok.cl ok.ha ok.hn ok.htk ok.hm)
  | emp h => exact .base (.dK (e _ _ h))
  | ref p => exact ok.elim
def isB : D → Bool | .bl _ => true | _ => false
def isI : D → Bool | .bl _ => true | .int _ => true | _ => false
def isS : D → Bool | .str _ => true | _ => false
def isL : D → Bool | .lst _ => true | _ => false
def isU : D → Bool | .tup _ => true | _ => false
def isO (C : Addr) : D → Bool | .obj C' _ => C' == C | _ => false
theorem kit_B : ∀ d, okC K d → PySem.W.kitOne K (tyV d) (.type "bool") = some (isB d)
  | .non, _ => kit_ty (by show kitB "NoneType" "bool" = some false; decide +kernel)
  | .bl _, _ => kit_ty (by show kitB "bool" "bool" = some true; decide +kernel)
  | .int _, _ => kit_ty (by show kitB "int" "bool" = some false; decide +kernel)
  | .str _, _ => kit_ty (by show kitB "str" "bool" = some false; decide +kernel)
  | .lst _, _ => kit_ty (by show kitB "list" "bool" = some false; decide +kernel)
  | .tup _, _ => kit_ty (by show kitB "tuple" "bool" = some false; decide +kernel)
  | .emp, _ => kit_ty (by show kitB "dict" "bool" = some false; decide +kernel)
  | .obj C _, ok => ok.no _ (by decide)
  | .ref _, ok => ok.elim
theorem kit_I : ∀ d, okC K d → PySem.W.kitOne K (tyV d) (.type "int") = some (isI d)
  | .non, _ => kit_ty (by show kitB "NoneType" "int" = some false; decide +kernel)
  | .bl _, _ => kit_ty (by show kitB "bool" "int" = some true; decide +kernel)
  | .int _, _ => kit_ty (by show kitB "int" "int" = some true; decide +kernel)
  | .str _, _ => kit_ty (by show kitB "str" "int" = some false; decide +kernel)
  | .lst _, _ => kit_ty (by show kitB "list" "int" = some false; decide +kernel)
  | .tup _, _ => kit_ty (by show kitB "tuple" "int" = some false; decide +kernel)
  | .emp, _ => kit_ty (by show kitB "dict" "int" = some false; decide +kernel)
  | .obj C _, ok => ok.no _ (by decide)
  | .ref _, ok => ok.elim
theorem kit_S : ∀ d, okC K d → PySem.W.kitOne K (tyV d) (.type "str") = some (isS d)
  | .non, _ => kit_ty (by show kitB "NoneType" "str" = some false; decide +kernel)
  | .bl _, _ => kit_ty (by show kitB "bool" "str" = some false; decide +kernel)
  | .int _, _ => kit_ty (by show kitB "int" "str" = some false; decide +kernel)
  | .str _, _ => kit_ty (by show kitB "str" "str" = some true; decide +kernel)
  | .lst _, _ => kit_ty (by show kitB "list" "str" = some false; decide +kernel)
  | .tup _, _ => kit_ty (by show kitB "tuple" "str" = some false; decide +kernel)
  | .emp, _ => kit_ty (by show kitB "dict" "str" = some false; decide +kernel)
  | .obj C _, ok => ok.no _ (by decide)
  | .ref _, ok => ok.elim
theorem kit_L : ∀ d, okC K d → PySem.W.kitOne K (tyV d) (.type "list") = some (isL d)
  | .non, _ => kit_ty (by show kitB "NoneType" "list" = some false; decide +kernel)
  | .bl _, _ => kit_ty (by show kitB "bool" "list" = some false; decide +kernel)
  | .int _, _ => kit_ty (by show kitB "int" "list" = some false; decide +kernel)
  | .str _, _ => kit_ty (by show kitB "str" "list" = some false; decide +kernel)
  | .lst _, _ => kit_ty (by show kitB "list" "list" = some true; decide +kernel)
  | .tup _, _ => kit_ty (by show kitB "tuple" "list" = some false; decide +kernel)
  | .emp, _ => kit_ty (by show kitB "dict" "list" = some false; decide +kernel)
  | .obj C _, ok => ok.no _ (by decide)
  | .ref _, ok => ok.elim
theorem kit_U : ∀ d, okC K d → PySem.W.kitOne K (tyV d) (.type "tuple") = some (isU d)
  | .non, _ => kit_ty (by show kitB "NoneType" "tuple" = some false; decide +kernel)
  | .bl _, _ => kit_ty (by show kitB "bool" "tuple" = some false; decide +kernel)
  | .int _, _ => kit_ty (by show kitB "int" "tuple" = some false; decide +kernel)
  | .str _, _ => kit_ty (by show kitB "str" "tuple" = some false; decide +kernel)
  | .lst _, _ => kit_ty (by show kitB "list" "tuple" = some false; decide +kernel)
  | .tup _, _ => kit_ty (by show kitB "tuple" "tuple" = some true; decide +kernel)
  | .emp, _ => kit_ty (by show kitB "dict" "tuple" = some false; decide +kernel)
  | .obj C _, ok => ok.no _ (by decide)
  | .ref _, ok => ok.elim
/-- of an own class -/
theorem kit_O {C : Addr} (O : OwnCls K C) : ∀ d, (∀ C' fs, d = .obj C' fs → C' = C) → PySem.W.kitOne K (tyV d) (.ref C) = some (isO C d)
  | .non, _ => O.ty "NoneType" (by decide)
  | .bl _, _ => O.ty "bool" (by decide)
  | .int _, _ => O.ty "int" (by decide)
  | .str _, _ => O.ty "str" (by decide)
  | .lst _, _ => O.ty "list" (by decide)
  | .tup _, _ => O.ty "tuple" (by decide)
  | .emp, _ => O.ty "dict" (by decide)
  | .ref _, _ => O.ty "dict" (by decide)
  | .obj C' _, h => by
    have e := h C' _ rfl
    subst e
    show PySem.W.kitOne K (.ref C') (.ref C') = some (C' == C')
    rw [beq_self_eq_true]
    exact O.is
def dIsi (K : PySem.W.Frag) (g : D → Bool) (wa : WE) : WE := fun γ Q => wa γ fun x γ1 => okC K x ∧ Q (.bl (g x)) γ1
theorem de_isi (K' : PySem.W.Frag) {T : String} {y : Str} {py : Pos} {g : D → Bool} (hk : ∀ d, okC K' d → PySem.W.kitOne K' (tyV d) (.type T) = some (g d)) (hm : X.mg "isinstance" = none) (hmt : X.mg y = none) (hvt : bootBuiltins y = some (.type T)) (ha : DE X a ta wa) (hg : Gl X "isinstance" := by rfl) (hgt : Gl X y := by rfl) (hn : y ≠ "__name__" := by decide) (hdb : (y == ("__debug__" : Str)) = false := by decide)
    (he : starEach (a :: [.Name y py]) X.env = (false, eval a X.env) :: starEach [.Name y py] X.env := by rfl) (hK : X.K = K' := by rfl) : DE X (.Call (.Name "isinstance" p) [a, .Name y py] [] pos) (tCB (rIsi K') (tCons ta (tCons (tC (.ty T)) tNil))) (dIsi K' g wa) := by
  subst hK
  refine ⟨pe_callB call_isi hg hm (by decide +kernel) (pa_cons ha.pe (pa_cons (pe_bltn hgt hmt hvt rfl hn hdb) pa_nil) he) (by decide) (by decide) he, fun γ P P' k q => ha.se.mono γ _ _ (fun x γ1 q => ⟨q.1, k _ _ q.2⟩) q, fun B S H σ γ Q R q => ?_⟩
  refine ha.se.run B S H σ γ _ R (ha.se.mono γ _ _ (fun x γ1 ⟨ok, q⟩ v S1 H1 R1 e1 d1 => ?_) q)
  exact ⟨v, .ty T, _, _, g x, rfl, .ty T, den_ty d1 R1.same ok, hk x ok, q _ S1 H1 R1 e1 (.bl _)⟩
/-- isinstance(x, (T, U)) -/
theorem de_isi2 (K' : PySem.W.Frag) {T U : String} {y z : Str} {py pz pt : Pos} {kt : Nat} {g h : D → Bool} (hk : ∀ d, okC K' d → PySem.W.kitOne K' (tyV d) (.type T) = some (g d)) (hk2 : ∀ d, okC K' d → PySem.W.kitOne K' (tyV d) (.type U) = some (h d)) (hm : X.mg "isinstance" = none) (hmt : X.mg y = none) (hmu : X.mg z = none) (hvt : bootBuiltins y = some (.type T)) (hvu : bootBuiltins z = some (.type U)) (ha : DE X a ta wa) (hg : Gl X "isinstance" := by rfl) (hgt : Gl X y := by rfl) (hgu : Gl X z := by rfl)
    (hn : y ≠ "__name__" := by decide) (hdb : (y == ("__debug__" : Str)) = false := by decide) (hn2 : z ≠ "__name__" := by decide) (hdb2 : (z == ("__debug__" : Str)) = false := by decide)
    (he : starEach (a :: [.Tuple [.Name y py, .Name z pz] kt pt]) X.env = (false, eval a X.env) :: starEach [.Tuple [.Name y py, .Name z pz] kt pt] X.env := by rfl) (hK : X.K = K' := by rfl) : DE X (.Call (.Name "isinstance" p) [a, .Tuple [.Name y py, .Name z pz] kt pt] [] pos) (tCB (rIsiT K') (tCons ta (tCons (tTup (tCons (tC (.ty T)) (tCons (tC (.ty U)) tNil))) tNil))) (dIsi K' (fun d => g d || h d) wa) := by
  subst hK
  refine ⟨pe_callB call_isiT hg hm (by decide +kernel) (pa_cons ha.pe (pa_cons (pe_tup (pa_cons (pe_bltn hgt hmt hvt rfl hn hdb) (pa_cons (pe_bltn hgu hmu hvu rfl hn2 hdb2) pa_nil))) pa_nil) he) (by decide) (by decide) he, fun γ P P' k q => ha.se.mono γ _ _ (fun x γ1 q => ⟨q.1, k _ _ q.2⟩) q, fun B S H σ γ Q R q => ?_⟩
  refine ha.se.run B S H σ γ _ R (ha.se.mono γ _ _ (fun x γ1 ⟨ok, q⟩ v S1 H1 R1 e1 d1 => ?_) q)
  refine ⟨by show 2 ≤ sizeLine; decide, fun tp htp => ?_⟩
  have R2 := R1.new (o := .tup [.ty T, .ty U]) htp
  have e2 : Same S1 (upd S1 tp (.tup [.ty T, .ty U])) := Same.upd (Same.refl S1) (R1.freshS htp)
  refine ⟨v, tp, [.ty T, .ty U], _, [.type T, .type U], g x || h x, rfl, upd_same, .cons (.ty T) (.cons (.ty U) .nil), den_ty (d1.mono e2) R2.same ok, ?_, q _ _ _ R2 (e1.trans e2) (.bl _)⟩
  refine kitAny_cons (hk x ok) (fun hb => ?_) (fun hb => by rw [hb]; rfl)
  rw [hb]
  show PySem.W.kitAny X.K _ _ = some (h x)
  refine kitAny_cons (hk2 x ok) (fun hb2 => ?_) (fun hb2 => hb2)
  rw [hb2]
  exact kitAny_nil
/-- isinstance(x, C), C an own class -/
def dIsO (K : PySem.W.Frag) (C : Addr) (wa : WE) : WE := fun γ Q => wa γ fun x γ1 => okC K x ∧ (∀ C' fs, x = .obj C' fs → C' = C) ∧ Q (.bl (isO C x)) γ1
theorem de_isO (K' : PySem.W.Frag) {C : Addr} {y : Str} {py : Pos} (O : OwnCls K' C) (hm : X.mg "isinstance" = none) (hmt : X.mg y = some (.ref C)) (ha : DE X a ta wa) (hg : Gl X "isinstance" := by rfl) (hgt : Gl X y := by rfl) (hdb : (y == ("__debug__" : Str)) = false := by decide)
    (he : starEach (a :: [.Name y py]) X.env = (false, eval a X.env) :: starEach [.Name y py] X.env := by rfl) (hK : X.K = K' := by rfl) : DE X (.Call (.Name "isinstance" p) [a, .Name y py] [] pos) (tCB (rIsi K') (tCons ta (tCons (tC (.ref C)) tNil))) (dIsO K' C wa) := by
  subst hK
  refine ⟨pe_callB call_isi hg hm (by decide +kernel) (pa_cons ha.pe (pa_cons (pe_glob hgt hmt rfl hdb) pa_nil) he) (by decide) (by decide) he, fun γ P P' k q => ha.se.mono γ _ _ (fun x γ1 q => ⟨q.1, q.2.1, k _ _ q.2.2⟩) q, fun B S H σ γ Q R q => ?_⟩
  refine ha.se.run B S H σ γ _ R (ha.se.mono γ _ _ (fun x γ1 ⟨ok, h1, q⟩ v S1 H1 R1 e1 d1 => ?_) q)
  exact ⟨v, .ref C, _, _, isO C x, rfl, .own C, den_ty d1 R1.same ok, kit_O O x h1, q _ S1 H1 R1 e1 (.bl _)⟩

/-! ### list(x), list + list -/
def dListOf (wa : WE) : WF := fun γ Q => wa γ fun x γ1 => ∃ ds, (x = .lst ds ∨ x = .tup ds) ∧ Q ds γ1
theorem df_list (K' : PySem.W.Frag) (hm : X.mg "list" = none) (ha : DE X a ta wa) (hg : Gl X "list" := by rfl) (he : starEach (a :: []) X.env = (false, eval a X.env) :: starEach [] X.env := by rfl) (hK : X.K = K' := by rfl) : DF X (.Call (.Name "list" p) [a] [] pos) (tCB (fun xs H Q => ∃ p ys, xs = [.ref p] ∧ (SqL K' H p ys ∨ SqT K' H p ys) ∧ ∀ l, H l = none → Q (.ref l) (upd H l (.lst ys))) (tCons ta tNil)) (dListOf wa) := by
  subst hK
  refine ⟨pe_callTy call_list_of hg hm (by decide +kernel) (pa_cons ha.pe pa_nil he) (by decide) (by decide) he, fun γ P P' k q => ha.se.mono γ _ _ (fun x γ1 ⟨ds, e, q⟩ => ⟨ds, e, k _ _ q⟩) q, fun B S H σ γ Q R q => ?_⟩
  refine ha.se.run B S H σ γ _ R (ha.se.mono γ _ _ (fun x γ1 ⟨ds, e, q⟩ v S1 H1 R1 e1 d1 => ?_) q)
  rcases e with e | e
  · subst e
    obtain ⟨a, xs, rfl, g2, g3⟩ := d1.lst_inv
    exact ⟨a, xs, rfl, .inl (SqL.of (R1.same _ _ g2)), fun l hl => q l xs S1 _ (R1.newF hl) e1 g3⟩
  · subst e
    obtain ⟨a, xs, rfl, g2, g3⟩ := d1.tup_inv
    exact ⟨a, xs, rfl, .inr (SqT.of (R1.same _ _ g2)), fun l hl => q l xs S1 _ (R1.newF hl) e1 g3⟩
def dCat (wa wb : WE) : WF := fun γ Q => wa γ fun x γ1 => wb γ1 fun y γ2 => ∃ ds es, x = .lst ds ∧ y = .lst es ∧ ds.length + es.length ≤ sizeLine ∧ Q (ds ++ es) γ2
theorem df_cat (ha : DE X a ta wa) (hb : DE X b tb wb) : DF X (.BinOp a .Add b pos) (tOp rCat ta tb) (dCat wa wb) := by
  refine ⟨pe_op op_cat ha.pe hb.pe, fun γ P P' k q => ha.se.mono γ _ _ (fun x γ1 q => hb.se.mono γ1 _ _ (fun y γ2 ⟨ds, es, e1, e2, hz, q⟩ => ⟨ds, es, e1, e2, hz, k _ _ q⟩) q) q, fun B S H σ γ Q R q => ?_⟩
  refine ha.se.run B S H σ γ _ R (ha.se.mono γ _ _ (fun x γ1 q1 v S1 H1 R1 e1 d1 => ?_) q)
  refine hb.se.run B S1 H1 σ γ1 _ R1 (hb.se.mono γ1 _ _ (fun y γ2 ⟨ds, es, f1, f2, hz, q2⟩ u S2 H2 R2 e2 d2 => ?_) q1)
  clear q1
  subst f1 f2
  obtain ⟨l, xs, rfl, g2, g3⟩ := d1.lst_inv
  obtain ⟨m, ys, rfl, h2, h3⟩ := d2.lst_inv
  exact ⟨l, m, xs, ys, rfl, rfl, R2.same _ _ (e2 _ _ g2), R2.same _ _ h2, by rw [g3.1, h3.1]; exact hz, fun p hp => q2 p _ S2 _ (R2.newF hp) (e1.trans e2) ((g3.mono e2).append h3)⟩
end
/-- a def of the text: where it stands -/
structure Gf (K : PySem.W.Frag) (mg : Str → Option Value) (x : Str) (st : Stmt) (ps : List Str) : Type where
  f : Addr
  fd : FuncData
  F : Fun K x x st f fd
  g : mg x = some (.ref f)
  b : Binds K fd ps []
end DL
set_option Elab.async false
set_option linter.all false
set_option autoImplicit false
set_option maxRecDepth 100000
set_option maxHeartbeats 4000000
/-! DL7: steps for what is wanted over data. -/
namespace DL
/-- one step back, found by the goal's form -/
class Go (P : Prop) (Q : outParam Prop) : Prop where
  go : Q → P
open PySem PySem.Spec PyProof.Rows L2
def beqB : Bool → Bool → Bool
  | true, c => c
  | false, c => !c
theorem truD_n  : truD .non = (false) := rfl
theorem truD_b (b : Bool) : truD (.bl b) = (b) := rfl
theorem truD_i (i : Int) : truD (.int i) = (i != 0) := rfl
theorem truD_s (s : Str) : truD (.str s) = ((s.length : Int) != 0) := rfl
theorem truD_l (ds : List D) : truD (.lst ds) = (!ds.isEmpty) := rfl
theorem truD_t (ds : List D) : truD (.tup ds) = (!ds.isEmpty) := rfl
theorem isB_o (C : Addr) (fs : List (Str × D)) : isB (.obj C fs) = false := rfl
theorem isB_e : isB .emp = false := rfl
theorem isI_o (C : Addr) (fs : List (Str × D)) : isI (.obj C fs) = false := rfl
theorem isI_e : isI .emp = false := rfl
theorem isS_o (C : Addr) (fs : List (Str × D)) : isS (.obj C fs) = false := rfl
theorem isS_e : isS .emp = false := rfl
theorem isL_o (C : Addr) (fs : List (Str × D)) : isL (.obj C fs) = false := rfl
theorem isL_e : isL .emp = false := rfl
theorem isU_o (C : Addr) (fs : List (Str × D)) : isU (.obj C fs) = false := rfl
theorem isU_e : isU .emp = false := rfl
theorem isB_n  : isB .non = false := rfl
theorem isB_b (b : Bool) : isB (.bl b) = true := rfl
theorem isB_i (i : Int) : isB (.int i) = false := rfl
theorem isB_s (s : Str) : isB (.str s) = false := rfl
theorem isB_l (ds : List D) : isB (.lst ds) = false := rfl
theorem isB_t (ds : List D) : isB (.tup ds) = false := rfl
theorem isI_n  : isI .non = false := rfl
theorem isI_b (b : Bool) : isI (.bl b) = true := rfl
theorem isI_i (i : Int) : isI (.int i) = true := rfl
theorem isI_s (s : Str) : isI (.str s) = false := rfl
theorem isI_l (ds : List D) : isI (.lst ds) = false := rfl
theorem isI_t (ds : List D) : isI (.tup ds) = false := rfl
theorem isS_n  : isS .non = false := rfl
theorem isS_b (b : Bool) : isS (.bl b) = false := rfl
theorem isS_i (i : Int) : isS (.int i) = false := rfl
theorem isS_s (s : Str) : isS (.str s) = true := rfl
theorem isS_l (ds : List D) : isS (.lst ds) = false := rfl
theorem isS_t (ds : List D) : isS (.tup ds) = false := rfl
theorem isL_n  : isL .non = false := rfl
theorem isL_b (b : Bool) : isL (.bl b) = false := rfl
theorem isL_i (i : Int) : isL (.int i) = false := rfl
theorem isL_s (s : Str) : isL (.str s) = false := rfl
theorem isL_l (ds : List D) : isL (.lst ds) = true := rfl
theorem isL_t (ds : List D) : isL (.tup ds) = false := rfl
theorem isU_n  : isU .non = false := rfl
theorem isU_b (b : Bool) : isU (.bl b) = false := rfl
theorem isU_i (i : Int) : isU (.int i) = false := rfl
theorem isU_s (s : Str) : isU (.str s) = false := rfl
theorem isU_l (ds : List D) : isU (.lst ds) = false := rfl
theorem isU_t (ds : List D) : isU (.tup ds) = true := rfl
theorem beqB_t (c : Bool) : beqB true c = c := rfl
theorem beqB_f (c : Bool) : beqB false c = !c := rfl
theorem val_d (x : D) : (Rv.d x).val = x := rfl
theorem val_f (xs : List D) : (Rv.f xs).val = .lst xs := rfl
theorem not_t : (!true) = false := rfl
theorem not_f : (!false) = true := rfl
theorem or_t (b : Bool) : (true || b) = true := rfl
theorem or_f (b : Bool) : (false || b) = b := rfl
theorem beqB_self (b : Bool) : beqB b b = true := by cases b <;> rfl
section
variable {γ γ1 : List Sl} {Q : D → List Sl → Prop} {QF : List D → List Sl → Prop} {QT : Bool → List Sl → Prop} {QA : List D → List Sl → Prop} {QO : Option Int → List Sl → Prop} {wa wb wc we : WE} {wf : WF} {w w' : WS} {wt : WT} {wA : WA} {Dd : EndsD} {i j : Nat} {d : D} {ds es : List D} {m n : Int} {R : D → Prop} {b : Bool}
theorem i_var (h : γ[i]? = some (.val d)) (q : Q d γ) : dVar i γ Q := .inl ⟨d, h, q⟩
theorem i_c (q : Q d γ) : dC d γ Q := q
instance : Go (dC d γ Q) (Q d γ) := ⟨fun z => i_c z⟩
theorem i_v (q : wf γ fun ds γ' => Q (.lst ds) γ') : dV wf γ Q := q
instance : Go (dV wf γ Q) (wf γ fun ds γ' => Q (.lst ds) γ') := ⟨fun z => i_v z⟩
theorem i_op {f : D → D → (D → Prop) → Prop} (q : wa γ fun x γ1 => wb γ1 fun y γ2 => f x y fun d => Q d γ2) : dOp f wa wb γ Q := q
instance {f : D → D → (D → Prop) → Prop} : Go (dOp f wa wb γ Q) (wa γ fun x γ1 => wb γ1 fun y γ2 => f x y fun d => Q d γ2) := ⟨fun z => i_op z⟩
theorem i_I {C : Int → Int → Prop} {g : Int → Int → D} (c : C m n) (q : R (g m n)) : dI C g (.int m) (.int n) R := ⟨m, n, rfl, rfl, c, q⟩
theorem i_I0 {g : Int → Int → D} (q : R (g m n)) : dI0 g (.int m) (.int n) R := ⟨m, n, rfl, rfl, q⟩
theorem i_add (q : R (.int (m + n))) : dI0 (fun i j => .int (i + j)) (.int m) (.int n) R := i_I0 q
instance : Go (dI0 (fun i j => .int (i + j)) (.int m) (.int n) R) (R (.int (m + n))) := ⟨fun z => i_add z⟩
theorem i_sub (q : R (.int (m - n))) : dI0 (fun i j => .int (i - j)) (.int m) (.int n) R := i_I0 q
instance : Go (dI0 (fun i j => .int (i - j)) (.int m) (.int n) R) (R (.int (m - n))) := ⟨fun z => i_sub z⟩
theorem i_lt (q : R (.bl (decide (m < n)))) : dI0 (fun i j => .bl (decide (i < j))) (.int m) (.int n) R := i_I0 q
instance : Go (dI0 (fun i j => .bl (decide (i < j))) (.int m) (.int n) R) (R (.bl (decide (m < n)))) := ⟨fun z => i_lt z⟩
theorem i_le (q : R (.bl (decide (m ≤ n)))) : dI0 (fun i j => .bl (decide (i ≤ j))) (.int m) (.int n) R := i_I0 q
instance : Go (dI0 (fun i j => .bl (decide (i ≤ j))) (.int m) (.int n) R) (R (.bl (decide (m ≤ n)))) := ⟨fun z => i_le z⟩
theorem i_gt (q : R (.bl (decide (n < m)))) : dI0 (fun i j => .bl (decide (j < i))) (.int m) (.int n) R := i_I0 q
instance : Go (dI0 (fun i j => .bl (decide (j < i))) (.int m) (.int n) R) (R (.bl (decide (n < m)))) := ⟨fun z => i_gt z⟩
theorem i_ge (q : R (.bl (decide (n ≤ m)))) : dI0 (fun i j => .bl (decide (j ≤ i))) (.int m) (.int n) R := i_I0 q
instance : Go (dI0 (fun i j => .bl (decide (j ≤ i))) (.int m) (.int n) R) (R (.bl (decide (n ≤ m)))) := ⟨fun z => i_ge z⟩
theorem i_mul (c : IntMulOk m n) (q : R (.int (m * n))) : dI IntMulOk (fun i j => .int (i * j)) (.int m) (.int n) R := i_I c q
theorem i_mod (c : 0 < n) (q : R (.int (m % n))) : dI (fun _ j => 0 < j) (fun i j => .int (i % j)) (.int m) (.int n) R := i_I c q
theorem i_fdv (c : CDivW m n) (q : R (.int (m / n))) : dI CDivW (fun i j => .int (i / j)) (.int m) (.int n) R := i_I c q
theorem i_pow (c : CPow m n) (q : R (.int (m ^ n.toNat))) : dI CPow (fun i j => .int (i ^ j.toNat)) (.int m) (.int n) R := i_I c q
theorem mulL (h : -18446744073709551616 < m ∧ m < 18446744073709551616) : IntMulOk m n := CMul.ok (.inl ⟨by omega, by omega⟩)
theorem mulR (h : -18446744073709551616 < n ∧ n < 18446744073709551616) : IntMulOk m n := CMul.ok (.inr ⟨by omega, by omega⟩)
theorem divS (h : 0 < n ∧ n < 18446744073709551616) : CDivW m n := by
  refine ⟨h.1, ?_⟩
  have e : n.natAbs < 2 ^ 64 := by omega
  have := (Nat.log2_lt (n := n.natAbs) (k := 64) (by omega)).mpr e
  omega
theorem i_chain {f f' : D → D → (D → Prop) → Prop} (q : wa γ fun x γ1 => wb γ1 fun y γ2 => f x y fun z => ∃ k, z = .bl k ∧ if k = true then wc γ2 fun u γ3 => f' y u fun d => Q d γ3 else Q (.bl false) γ2) : dChain f f' wa wb wc γ Q := q
instance {f f' : D → D → (D → Prop) → Prop} : Go (dChain f f' wa wb wc γ Q) (wa γ fun x γ1 => wb γ1 fun y γ2 => f x y fun z => ∃ k, z = .bl k ∧ if k = true then wc γ2 fun u γ3 => f' y u fun d => Q d γ3 else Q (.bl false) γ2) := ⟨fun z => i_chain z⟩
theorem i_lt' (q : R (.bl (decide (m < n)))) : fLt (.int m) (.int n) R := i_I0 q
theorem i_le' (q : R (.bl (decide (m ≤ n)))) : fLe (.int m) (.int n) R := i_I0 q
theorem i_eqI (q : R (.bl (decide (m = n)))) : dSc false (.int m) (.int n) R := ⟨.int m, .int n, rfl, rfl, rfl, by
  have e : decide (V.int m = V.int n) = decide (m = n) := by
    by_cases h : m = n
    · rw [decide_eq_true h, decide_eq_true (congrArg V.int h)]
    · rw [decide_eq_false h, decide_eq_false (fun z => h (V.int.inj z))]
  rw [e]; exact q⟩
instance : Go (dSc false (.int m) (.int n) R) (R (.bl (decide (m = n)))) := ⟨fun z => i_eqI z⟩
theorem i_neI (q : R (.bl (!decide (m = n)))) : dSc true (.int m) (.int n) R := ⟨.int m, .int n, rfl, rfl, rfl, by
  have e : decide (V.int m = V.int n) = decide (m = n) := by
    by_cases h : m = n
    · rw [decide_eq_true h, decide_eq_true (congrArg V.int h)]
    · rw [decide_eq_false h, decide_eq_false (fun z => h (V.int.inj z))]
  rw [e]; exact q⟩
instance : Go (dSc true (.int m) (.int n) R) (R (.bl (!decide (m = n)))) := ⟨fun z => i_neI z⟩
theorem i_eqB {c : Bool} (q : R (.bl (beqB b c))) : dSc false (.bl b) (.bl c) R := ⟨.bl b, .bl c, rfl, rfl, rfl, by
  have e : decide (V.bl b = V.bl c) = beqB b c := by cases b <;> cases c <;> rfl
  rw [e]; exact q⟩
instance {c : Bool} : Go (dSc false (.bl b) (.bl c) R) (R (.bl (beqB b c))) := ⟨fun z => i_eqB z⟩
theorem i_neB {c : Bool} (q : R (.bl (!beqB b c))) : dSc true (.bl b) (.bl c) R := ⟨.bl b, .bl c, rfl, rfl, rfl, by
  have e : decide (V.bl b = V.bl c) = beqB b c := by cases b <;> cases c <;> rfl
  rw [e]; exact q⟩
instance {c : Bool} : Go (dSc true (.bl b) (.bl c) R) (R (.bl (!beqB b c))) := ⟨fun z => i_neB z⟩
theorem i_eqS {s t : Str} (q : R (.bl (decide (s = t)))) : dSc false (.str s) (.str t) R := ⟨.str s, .str t, rfl, rfl, rfl, by
  have e : decide (V.str s = V.str t) = decide (s = t) := by
    by_cases h : s = t
    · rw [decide_eq_true h, decide_eq_true (congrArg V.str h)]
    · rw [decide_eq_false h, decide_eq_false (fun z => h (V.str.inj z))]
  rw [e]; exact q⟩
instance {s t : Str} : Go (dSc false (.str s) (.str t) R) (R (.bl (decide (s = t)))) := ⟨fun z => i_eqS z⟩
theorem i_isN {x : D} (q : R (.bl (match x with | .non => true | _ => false))) : dIsN false x .non R := ⟨rfl, q⟩
instance {x : D} : Go (dIsN false x .non R) (R (.bl (match x with | .non => true | _ => false))) := ⟨fun z => i_isN z⟩
theorem i_notN {x : D} (q : R (.bl (match x with | .non => false | _ => true))) : dIsN true x .non R := ⟨rfl, q⟩
instance {x : D} : Go (dIsN true x .non R) (R (.bl (match x with | .non => false | _ => true))) := ⟨fun z => i_notN z⟩
theorem i_neg (q : wa γ fun x γ1 => ∃ i, x = .int i ∧ Q (.int (-i)) γ1) : dNeg wa γ Q := q
instance : Go (dNeg wa γ Q) (wa γ fun x γ1 => ∃ i, x = .int i ∧ Q (.int (-i)) γ1) := ⟨fun z => i_neg z⟩
theorem i_tr (q : wa γ fun x γ1 => okT x ∧ QT (truD x) γ1) : dTr wa γ QT := q
instance : Go (dTr wa γ QT) (wa γ fun x γ1 => okT x ∧ QT (truD x) γ1) := ⟨fun z => i_tr z⟩
theorem i_B (q : wa γ fun x γ1 => ∃ b, x = .bl b ∧ QT b γ1) : dB wa γ QT := q
instance : Go (dB wa γ QT) (wa γ fun x γ1 => ∃ b, x = .bl b ∧ QT b γ1) := ⟨fun z => i_B z⟩
theorem i_bl {P : Bool → Prop} (q : P b) : ∃ c, D.bl b = .bl c ∧ P c := ⟨b, rfl, q⟩
instance {P : Bool → Prop} : Go (∃ c, D.bl b = .bl c ∧ P c) (P b) := ⟨fun z => i_bl z⟩
theorem i_int {P : Int → Prop} (q : P n) : ∃ c, D.int n = .int c ∧ P c := ⟨n, rfl, q⟩
instance {P : Int → Prop} : Go (∃ c, D.int n = .int c ∧ P c) (P n) := ⟨fun z => i_int z⟩
theorem i_lst {P : List D → Prop} (q : P ds) : ∃ c, D.lst ds = .lst c ∧ P c := ⟨ds, rfl, q⟩
instance {P : List D → Prop} : Go (∃ c, D.lst ds = .lst c ∧ P c) (P ds) := ⟨fun z => i_lst z⟩
theorem i_tup {P : List D → Prop} (q : P ds) : ∃ c, D.tup ds = .tup c ∧ P c := ⟨ds, rfl, q⟩
instance {P : List D → Prop} : Go (∃ c, D.tup ds = .tup c ∧ P c) (P ds) := ⟨fun z => i_tup z⟩
theorem i_okb {P : Prop} (q : P) : okT (.bl b) ∧ P := ⟨trivial, q⟩
instance {P : Prop} : Go (okT (.bl b) ∧ P) (P) := ⟨fun z => i_okb z⟩
theorem i_oki {P : Prop} (q : P) : okT (.int n) ∧ P := ⟨trivial, q⟩
instance {P : Prop} : Go (okT (.int n) ∧ P) (P) := ⟨fun z => i_oki z⟩
theorem i_okl {P : Prop} (q : P) : okT (.lst ds) ∧ P := ⟨trivial, q⟩
instance {P : Prop} : Go (okT (.lst ds) ∧ P) (P) := ⟨fun z => i_okl z⟩
theorem i_oku {P : Prop} (q : P) : okT (.tup ds) ∧ P := ⟨trivial, q⟩
instance {P : Prop} : Go (okT (.tup ds) ∧ P) (P) := ⟨fun z => i_oku z⟩
theorem i_okn {P : Prop} (q : P) : okT .non ∧ P := ⟨trivial, q⟩
instance {P : Prop} : Go (okT .non ∧ P) (P) := ⟨fun z => i_okn z⟩
variable {wt' : WT}
theorem i_and (q : wt γ fun c γ1 => if c = true then wt' γ1 QT else QT false γ1) : dAnd wt wt' γ QT := q
instance : Go (dAnd wt wt' γ QT) (wt γ fun c γ1 => if c = true then wt' γ1 QT else QT false γ1) := ⟨fun z => i_and z⟩
theorem i_or (q : wt γ fun c γ1 => if c = true then QT true γ1 else wt' γ1 QT) : dOr wt wt' γ QT := q
instance : Go (dOr wt wt' γ QT) (wt γ fun c γ1 => if c = true then QT true γ1 else wt' γ1 QT) := ⟨fun z => i_or z⟩
theorem i_not (q : wt γ fun c γ1 => QT (!c) γ1) : dNot wt γ QT := q
instance : Go (dNot wt γ QT) (wt γ fun c γ1 => QT (!c) γ1) := ⟨fun z => i_not z⟩
theorem i_andV (q : wa γ fun x γ1 => ∃ c, x = .bl c ∧ if c = true then wb γ1 Q else Q (.bl false) γ1) : dAndV wa wb γ Q := q
instance : Go (dAndV wa wb γ Q) (wa γ fun x γ1 => ∃ c, x = .bl c ∧ if c = true then wb γ1 Q else Q (.bl false) γ1) := ⟨fun z => i_andV z⟩
theorem i_orV (q : wa γ fun x γ1 => ∃ c, x = .bl c ∧ if c = true then Q (.bl true) γ1 else wb γ1 Q) : dOrV wa wb γ Q := q
instance : Go (dOrV wa wb γ Q) (wa γ fun x γ1 => ∃ c, x = .bl c ∧ if c = true then Q (.bl true) γ1 else wb γ1 Q) := ⟨fun z => i_orV z⟩
theorem i_notV (q : wa γ fun x γ1 => ∃ c, x = .bl c ∧ Q (.bl (!c)) γ1) : dNotV wa γ Q := q
instance : Go (dNotV wa γ Q) (wa γ fun x γ1 => ∃ c, x = .bl c ∧ Q (.bl (!c)) γ1) := ⟨fun z => i_notV z⟩
theorem i_ifE (q : wt γ fun c γ1 => if c = true then wa γ1 Q else wb γ1 Q) : dIfE wt wa wb γ Q := q
instance : Go (dIfE wt wa wb γ Q) (wt γ fun c γ1 => if c = true then wa γ1 Q else wb γ1 Q) := ⟨fun z => i_ifE z⟩
theorem i_nil (q : QA [] γ) : dNil γ QA := q
instance : Go (dNil γ QA) (QA [] γ) := ⟨fun z => i_nil z⟩
theorem i_cons (q : we γ fun x γ1 => wA γ1 fun ds γ2 => QA (x :: ds) γ2) : dCons we wA γ QA := q
instance : Go (dCons we wA γ QA) (we γ fun x γ1 => wA γ1 fun ds γ2 => QA (x :: ds) γ2) := ⟨fun z => i_cons z⟩
theorem i_dtup (q : wA γ fun ds γ1 => ds.length ≤ sizeLine ∧ Q (.tup ds) γ1) : dTup wA γ Q := q
instance : Go (dTup wA γ Q) (wA γ fun ds γ1 => ds.length ≤ sizeLine ∧ Q (.tup ds) γ1) := ⟨fun z => i_dtup z⟩
theorem i_dlst (q : wA γ fun ds γ1 => ds.length ≤ sizeLine ∧ QF ds γ1) : dLst wA γ QF := q
instance : Go (dLst wA γ QF) (wA γ fun ds γ1 => ds.length ≤ sizeLine ∧ QF ds γ1) := ⟨fun z => i_dlst z⟩
theorem small (h : ds.length ≤ 100000) : ds.length ≤ sizeLine := Nat.le_trans h (by decide)
theorem smallN {k : Nat} (h : k ≤ 100000) : k ≤ sizeLine := Nat.le_trans h (by decide)
theorem smallL {k : Nat} (h : k < 100000) : k < sizeLine := Nat.lt_of_lt_of_le h (by decide)
theorem i_sz {P : Prop} (h : ds.length ≤ 100000) (q : P) : ds.length ≤ sizeLine ∧ P := ⟨small h, q⟩
theorem i_ixL (h : atI ds n = some d) (q : R d) : itemD (.lst ds) (.int n) R := ⟨n, d, rfl, .inl ⟨ds, rfl, h⟩, q⟩
theorem i_ixT (h : atI ds n = some d) (q : R d) : itemD (.tup ds) (.int n) R := ⟨n, d, rfl, .inr ⟨ds, rfl, h⟩, q⟩
theorem i_ixO {mm : Bool} (g : γ[i]? = some (.own mm ds)) (q : wb γ fun y γ1 => ∃ k m ds d, y = .int k ∧ γ1[i]? = some (.own m ds) ∧ atI ds k = some d ∧ Q d γ1) : dIxO i wb γ Q := ⟨⟨_, _, g⟩, q⟩
theorem i_ixO2 {mm : Bool} {P : D → Prop} (g : γ[i]? = some (.own mm ds)) (h : atI ds n = some d) (q : P d) : ∃ k m es e, D.int n = .int k ∧ γ[i]? = some (.own m es) ∧ atI es k = some e ∧ P e := ⟨n, mm, ds, d, rfl, g, h, q⟩
theorem i_noPart (q : QO none γ) : dNoPart γ QO := q
instance : Go (dNoPart γ QO) (QO none γ) := ⟨fun z => i_noPart z⟩
theorem i_part (q : we γ fun x γ1 => ∃ i, x = .int i ∧ QO (some i) γ1) : dPart we γ QO := q
instance : Go (dPart we γ QO) (we γ fun x γ1 => ∃ i, x = .int i ∧ QO (some i) γ1) := ⟨fun z => i_part z⟩
variable {wl wh : WO}
theorem i_sl (q : wa γ fun x γ1 => wl γ1 fun l γ2 => wh γ2 fun h γ3 => ∃ ds, x = .lst ds ∧ QF (cutL ds l h) γ3) : dSl wa wl wh γ QF := q
instance : Go (dSl wa wl wh γ QF) (wa γ fun x γ1 => wl γ1 fun l γ2 => wh γ2 fun h γ3 => ∃ ds, x = .lst ds ∧ QF (cutL ds l h) γ3) := ⟨fun z => i_sl z⟩
theorem i_call {f : List D → (D → Prop) → Prop} (q : wA γ fun ds γ1 => f ds fun d => Q d γ1) : dCall f wA γ Q := q
instance {f : List D → (D → Prop) → Prop} : Go (dCall f wA γ Q) (wA γ fun ds γ1 => f ds fun d => Q d γ1) := ⟨fun z => i_call z⟩
theorem i_lenL (q : R (.int ds.length)) : lenD [.lst ds] R := ⟨ds, .inl rfl, q⟩
instance : Go (lenD [.lst ds] R) (R (.int ds.length)) := ⟨fun z => i_lenL z⟩
theorem i_lenT (q : R (.int ds.length)) : lenD [.tup ds] R := ⟨ds, .inr rfl, q⟩
instance : Go (lenD [.tup ds] R) (R (.int ds.length)) := ⟨fun z => i_lenT z⟩
theorem i_intI (q : R (.int n)) : intD [.int n] R := .inl ⟨n, rfl, q⟩
instance : Go (intD [.int n] R) (R (.int n)) := ⟨fun z => i_intI z⟩
theorem i_intB (q : R (.int (if b then 1 else 0))) : intD [.bl b] R := .inr ⟨b, rfl, q⟩
instance : Go (intD [.bl b] R) (R (.int (if b then 1 else 0))) := ⟨fun z => i_intB z⟩
theorem i_isi {K : PySem.W.Frag} {g : D → Bool} (q : wa γ fun x γ1 => okC K x ∧ Q (.bl (g x)) γ1) : dIsi K g wa γ Q := q
instance {K : PySem.W.Frag} {g : D → Bool} : Go (dIsi K g wa γ Q) (wa γ fun x γ1 => okC K x ∧ Q (.bl (g x)) γ1) := ⟨fun z => i_isi z⟩
theorem i_isO {K : PySem.W.Frag} {C : Addr} (q : wa γ fun x γ1 => okC K x ∧ (∀ C' fs, x = .obj C' fs → C' = C) ∧ Q (.bl (isO C x)) γ1) : dIsO K C wa γ Q := q
instance {K : PySem.W.Frag} {C : Addr} : Go (dIsO K C wa γ Q) (wa γ fun x γ1 => okC K x ∧ (∀ C' fs, x = .obj C' fs → C' = C) ∧ Q (.bl (isO C x)) γ1) := ⟨fun z => i_isO z⟩
theorem i_ocb {K : PySem.W.Frag} {P : Prop} (q : P) : okC K (.bl b) ∧ P := ⟨trivial, q⟩
instance {K : PySem.W.Frag} {P : Prop} : Go (okC K (.bl b) ∧ P) (P) := ⟨fun z => i_ocb z⟩
theorem i_oci {K : PySem.W.Frag} {P : Prop} (q : P) : okC K (.int n) ∧ P := ⟨trivial, q⟩
instance {K : PySem.W.Frag} {P : Prop} : Go (okC K (.int n) ∧ P) (P) := ⟨fun z => i_oci z⟩
theorem i_ocs {K : PySem.W.Frag} {P : Prop} {s : Str} (q : P) : okC K (.str s) ∧ P := ⟨trivial, q⟩
instance {K : PySem.W.Frag} {P : Prop} {s : Str} : Go (okC K (.str s) ∧ P) (P) := ⟨fun z => i_ocs z⟩
theorem i_ocl {K : PySem.W.Frag} {P : Prop} (q : P) : okC K (.lst ds) ∧ P := ⟨trivial, q⟩
instance {K : PySem.W.Frag} {P : Prop} : Go (okC K (.lst ds) ∧ P) (P) := ⟨fun z => i_ocl z⟩
theorem i_ocu {K : PySem.W.Frag} {P : Prop} (q : P) : okC K (.tup ds) ∧ P := ⟨trivial, q⟩
instance {K : PySem.W.Frag} {P : Prop} : Go (okC K (.tup ds) ∧ P) (P) := ⟨fun z => i_ocu z⟩
theorem i_ocn {K : PySem.W.Frag} {P : Prop} (q : P) : okC K .non ∧ P := ⟨trivial, q⟩
instance {K : PySem.W.Frag} {P : Prop} : Go (okC K .non ∧ P) (P) := ⟨fun z => i_ocn z⟩
theorem i_oce {K : PySem.W.Frag} {P : Prop} (q : P) : okC K .emp ∧ P := ⟨trivial, q⟩
instance {K : PySem.W.Frag} {P : Prop} : Go (okC K .emp ∧ P) (P) := ⟨fun z => i_oce z⟩
theorem i_listOf (q : wa γ fun x γ1 => ∃ ds, (x = .lst ds ∨ x = .tup ds) ∧ QF ds γ1) : dListOf wa γ QF := q
instance : Go (dListOf wa γ QF) (wa γ fun x γ1 => ∃ ds, (x = .lst ds ∨ x = .tup ds) ∧ QF ds γ1) := ⟨fun z => i_listOf z⟩
theorem i_listL {P : List D → Prop} (q : P ds) : ∃ es, (D.lst ds = .lst es ∨ D.lst ds = .tup es) ∧ P es := ⟨ds, .inl rfl, q⟩
instance {P : List D → Prop} : Go (∃ es, (D.lst ds = .lst es ∨ D.lst ds = .tup es) ∧ P es) (P ds) := ⟨fun z => i_listL z⟩
theorem i_listT {P : List D → Prop} (q : P ds) : ∃ es, (D.tup ds = .lst es ∨ D.tup ds = .tup es) ∧ P es := ⟨ds, .inr rfl, q⟩
instance {P : List D → Prop} : Go (∃ es, (D.tup ds = .lst es ∨ D.tup ds = .tup es) ∧ P es) (P ds) := ⟨fun z => i_listT z⟩
theorem i_cat (q : wa γ fun x γ1 => wb γ1 fun y γ2 => ∃ ds es, x = .lst ds ∧ y = .lst es ∧ ds.length + es.length ≤ sizeLine ∧ QF (ds ++ es) γ2) : dCat wa wb γ QF := q
instance : Go (dCat wa wb γ QF) (wa γ fun x γ1 => wb γ1 fun y γ2 => ∃ ds es, x = .lst ds ∧ y = .lst es ∧ ds.length + es.length ≤ sizeLine ∧ QF (ds ++ es) γ2) := ⟨fun z => i_cat z⟩
theorem i_cat2 {F : List D → List D → Prop} (h : ds.length + es.length ≤ 100000) (q : F ds es) : ∃ a b, D.lst ds = .lst a ∧ D.lst es = .lst b ∧ a.length + b.length ≤ sizeLine ∧ F a b := ⟨ds, es, rfl, rfl, smallN h, q⟩
/-! iterators, targets -/
theorem i_il (q : we γ fun x γ1 => ∃ ds, x = .lst ds ∧ QA ds γ1) : dIL we γ QA := q
instance : Go (dIL we γ QA) (we γ fun x γ1 => ∃ ds, x = .lst ds ∧ QA ds γ1) := ⟨fun z => i_il z⟩
theorem i_it (q : we γ fun x γ1 => ∃ ds, x = .tup ds ∧ QA ds γ1) : dIT we γ QA := q
instance : Go (dIT we γ QA) (we γ fun x γ1 => ∃ ds, x = .tup ds ∧ QA ds γ1) := ⟨fun z => i_it z⟩
theorem i_ir1 (q : wA γ fun ds γ1 => ∃ n, ds = [.int n] ∧ (-(2 ^ 62) ≤ n ∧ n < 2 ^ 62) ∧ QA (rngD 0 n.toNat) γ1) : dIR1 wA γ QA := q
instance : Go (dIR1 wA γ QA) (wA γ fun ds γ1 => ∃ n, ds = [.int n] ∧ (-(2 ^ 62) ≤ n ∧ n < 2 ^ 62) ∧ QA (rngD 0 n.toNat) γ1) := ⟨fun z => i_ir1 z⟩
theorem i_ir1' {F : Int → Prop} (h : -4611686018427387904 ≤ n ∧ n < 4611686018427387904) (q : F n) : ∃ k, [D.int n] = [.int k] ∧ (-(2 ^ 62) ≤ k ∧ k < 2 ^ 62) ∧ F k := ⟨n, rfl, ⟨by omega, by omega⟩, q⟩
theorem i_ir2 (q : wA γ fun ds γ1 => ∃ i j, ds = [.int i, .int j] ∧ (-(2 ^ 62) ≤ i ∧ i < 2 ^ 62 ∧ -(2 ^ 62) ≤ j ∧ j < 2 ^ 62) ∧ QA (rngD i (j - i).toNat) γ1) : dIR2 wA γ QA := q
instance : Go (dIR2 wA γ QA) (wA γ fun ds γ1 => ∃ i j, ds = [.int i, .int j] ∧ (-(2 ^ 62) ≤ i ∧ i < 2 ^ 62 ∧ -(2 ^ 62) ≤ j ∧ j < 2 ^ 62) ∧ QA (rngD i (j - i).toNat) γ1) := ⟨fun z => i_ir2 z⟩
theorem i_ien (q : wA γ fun ds γ1 => ∃ es, ds = [.lst es] ∧ QA (enumD es) γ1) : dIEn wA γ QA := q
instance : Go (dIEn wA γ QA) (wA γ fun ds γ1 => ∃ es, ds = [.lst es] ∧ QA (enumD es) γ1) := ⟨fun z => i_ien z⟩
theorem i_ien' {P : List D → Prop} (q : P ds) : ∃ es, [D.lst ds] = [.lst es] ∧ P es := ⟨ds, rfl, q⟩
theorem i_iz (q : wA γ fun ds γ1 => ∃ es fs, ds = [.lst es, .lst fs] ∧ QA (zipD es fs) γ1) : dIZ wA γ QA := q
instance : Go (dIZ wA γ QA) (wA γ fun ds γ1 => ∃ es fs, ds = [.lst es, .lst fs] ∧ QA (zipD es fs) γ1) := ⟨fun z => i_iz z⟩
theorem i_iz' {P : List D → List D → Prop} (q : P ds es) : ∃ a b, [D.lst ds, D.lst es] = [.lst a, .lst b] ∧ P a b := ⟨ds, es, rfl, q⟩
variable {QG : List Sl → Prop} {wg : WG} {wgs : WGs}
theorem i_name (q : QG (γ.set i (.val d))) : dName i d γ QG := q
instance : Go (dName i d γ QG) (QG (γ.set i (.val d))) := ⟨fun z => i_name z⟩
theorem i_gnil (q : QG γ) : dgNil [] γ QG := ⟨rfl, q⟩
instance : Go (dgNil [] γ QG) (QG γ) := ⟨fun z => i_gnil z⟩
theorem i_gcons (q : wg d γ fun γ1 => wgs ds γ1 QG) : dgCons wg wgs (d :: ds) γ QG := ⟨d, ds, rfl, q⟩
instance : Go (dgCons wg wgs (d :: ds) γ QG) (wg d γ fun γ1 => wgs ds γ1 QG) := ⟨fun z => i_gcons z⟩
theorem i_gtup {k : Nat} (h : ds.length = k) (q : wgs ds γ QG) : dgTup k wgs (.tup ds) γ QG := ⟨ds, rfl, h, q⟩
theorem i_yes (q : QT true γ) : dYes γ QT := q
instance : Go (dYes γ QT) (QT true γ) := ⟨fun z => i_yes z⟩
/-! statements -/
theorem i_next (q : Dd.nx γ) : dNext Dd γ := q
instance : Go (dNext Dd γ) (Dd.nx γ) := ⟨fun z => i_next z⟩
theorem i_seq (q : w { Dd with nx := w' Dd } γ) : dSeq w w' Dd γ := q
instance : Go (dSeq w w' Dd γ) (w { Dd with nx := w' Dd } γ) := ⟨fun z => i_seq z⟩
theorem i_brk (q : Dd.bk γ) : dBrk Dd γ := q
instance : Go (dBrk Dd γ) (Dd.bk γ) := ⟨fun z => i_brk z⟩
theorem i_cont (q : Dd.ct γ) : dCont Dd γ := q
instance : Go (dCont Dd γ) (Dd.ct γ) := ⟨fun z => i_cont z⟩
theorem i_drop (q : we γ fun _ γ1 => Dd.nx γ1) : dDrop we Dd γ := q
instance : Go (dDrop we Dd γ) (we γ fun _ γ1 => Dd.nx γ1) := ⟨fun z => i_drop z⟩
theorem i_ret (q : we γ fun d γ1 => Dd.rt (.d d) γ1) : dRet we Dd γ := q
instance : Go (dRet we Dd γ) (we γ fun d γ1 => Dd.rt (.d d) γ1) := ⟨fun z => i_ret z⟩
theorem i_retF (q : wf γ fun ds γ1 => Dd.rt (.f ds) γ1) : dRetF wf Dd γ := q
instance : Go (dRetF wf Dd γ) (wf γ fun ds γ1 => Dd.rt (.f ds) γ1) := ⟨fun z => i_retF z⟩
theorem i_retN (q : Dd.rt (.d .non) γ) : dRetN Dd γ := q
instance : Go (dRetN Dd γ) (Dd.rt (.d .non) γ) := ⟨fun z => i_retN z⟩
theorem i_set (q : we γ fun d γ1 => Dd.nx (γ1.set i (.val d))) : dSet i we Dd γ := q
instance : Go (dSet i we Dd γ) (we γ fun d γ1 => Dd.nx (γ1.set i (.val d))) := ⟨fun z => i_set z⟩
theorem i_setO (q : wf γ fun ds γ1 => Dd.nx (γ1.set i (.own false ds))) : dSetO i wf Dd γ := q
instance : Go (dSetO i wf Dd γ) (wf γ fun ds γ1 => Dd.nx (γ1.set i (.own false ds))) := ⟨fun z => i_setO z⟩
theorem i_asg (q : we γ fun d γ1 => wg d γ1 Dd.nx) : dAsg we wg Dd γ := q
instance : Go (dAsg we wg Dd γ) (we γ fun d γ1 => wg d γ1 Dd.nx) := ⟨fun z => i_asg z⟩
theorem i_sti {wk : WE} (q : we γ fun d γ1 => (∃ m ds, γ1[i]? = some (.own m ds)) ∧ wk γ1 fun k γ2 => ∃ n m ds j, k = .int n ∧ γ2[i]? = some (.own m ds) ∧ ixN ds.length n = some j ∧ (m = true → flat d) ∧ Dd.nx (γ2.set i (.own m (ds.set j d)))) : dStI i we wk Dd γ := q
instance {wk : WE} : Go (dStI i we wk Dd γ) (we γ fun d γ1 => (∃ m ds, γ1[i]? = some (.own m ds)) ∧ wk γ1 fun k γ2 => ∃ n m ds j, k = .int n ∧ γ2[i]? = some (.own m ds) ∧ ixN ds.length n = some j ∧ (m = true → flat d) ∧ Dd.nx (γ2.set i (.own m (ds.set j d)))) := ⟨fun z => i_sti z⟩
theorem i_own {mm : Bool} {P : Prop} (g : γ[i]? = some (.own mm ds)) (q : P) : (∃ m es, γ[i]? = some (.own m es)) ∧ P := ⟨⟨_, _, g⟩, q⟩
theorem i_sti2 {mm : Bool} {F : Int → Bool → List D → Nat → Prop} (g : γ[i]? = some (.own mm ds)) (h : ixN ds.length n = some j) (q : F n mm ds j) : ∃ k m es jj, D.int n = .int k ∧ γ[i]? = some (.own m es) ∧ ixN es.length k = some jj ∧ F k m es jj := ⟨n, mm, ds, j, rfl, g, h, q⟩
theorem i_fm {d : D} {P : Prop} (q : P) : (false = true → flat d) ∧ P := ⟨fun h => (by cases h), q⟩
instance {d : D} {P : Prop} : Go ((false = true → flat d) ∧ P) (P) := ⟨fun z => i_fm z⟩
theorem i_fms {ds : List D} {P : Prop} (q : P) : (false = true → flats ds) ∧ P := ⟨fun h => (by cases h), q⟩
instance {ds : List D} {P : Prop} : Go ((false = true → flats ds) ∧ P) (P) := ⟨fun z => i_fms z⟩
theorem i_fmi {m : Bool} {n : Int} {P : Prop} (q : P) : (m = true → flat (.int n)) ∧ P := ⟨fun _ => trivial, q⟩
instance {m : Bool} {n : Int} {P : Prop} : Go ((m = true → flat (.int n)) ∧ P) (P) := ⟨fun z => i_fmi z⟩
theorem i_fmb {m b : Bool} {P : Prop} (q : P) : (m = true → flat (.bl b)) ∧ P := ⟨fun _ => trivial, q⟩
instance {m b : Bool} {P : Prop} : Go ((m = true → flat (.bl b)) ∧ P) (P) := ⟨fun z => i_fmb z⟩
theorem i_fmn {m : Bool} {P : Prop} (q : P) : (m = true → flat .non) ∧ P := ⟨fun _ => trivial, q⟩
instance {m : Bool} {P : Prop} : Go ((m = true → flat .non) ∧ P) (P) := ⟨fun z => i_fmn z⟩
theorem i_app {mm : Bool} (g : γ[i]? = some (.own mm ds)) (q : we γ fun d γ1 => ∃ m ds, γ1[i]? = some (.own m ds) ∧ ds.length < sizeLine ∧ (m = true → flat d) ∧ Dd.nx (γ1.set i (.own m (ds ++ [d])))) : dApp i we Dd γ := ⟨⟨_, _, g⟩, q⟩
theorem i_ext {mm : Bool} (g : γ[i]? = some (.own mm ds)) (q : we γ fun d γ1 => ∃ es m ds, d = .lst es ∧ γ1[i]? = some (.own m ds) ∧ ds.length + es.length ≤ sizeLine ∧ (m = true → flats es) ∧ Dd.nx (γ1.set i (.own m (ds ++ es)))) : dExt i we Dd γ := ⟨⟨_, _, g⟩, q⟩
theorem i_if {wc : WT} (q : wc γ fun b γ1 => if b = true then w Dd γ1 else w' Dd γ1) : dIf wc w w' Dd γ := q
instance {wc : WT} : Go (dIf wc w w' Dd γ) (wc γ fun b γ1 => if b = true then w Dd γ1 else w' Dd γ1) := ⟨fun z => i_if z⟩
theorem i_ite {P P' : Prop} {p : Prop} [Decidable p] {inst : Decidable (decide p = true)} (h : p → P) (h' : ¬ p → P') : @ite Prop (decide p = true) inst P P' := by
  by_cases c : p
  · rw [if_pos (decide_eq_true c)]; exact h c
  · rw [if_neg (by rw [decide_eq_false c]; exact Bool.false_ne_true)]; exact h' c
theorem i_iteN {P P' : Prop} {p : Prop} [Decidable p] {inst : Decidable ((!decide p) = true)} (h : ¬ p → P) (h' : p → P') : @ite Prop ((!decide p) = true) inst P P' := by
  by_cases c : p
  · rw [if_neg (by rw [decide_eq_true c]; exact Bool.false_ne_true)]; exact h' c
  · rw [if_pos (by rw [decide_eq_false c]; rfl)]; exact h c
theorem i_iteB {P P' : Prop} {b : Bool} {inst : Decidable (b = true)} (h : b = true → P) (h' : b = false → P') : @ite Prop (b = true) inst P P' := by
  cases b with
  | true => rw [if_pos rfl]; exact h rfl
  | false => rw [if_neg Bool.false_ne_true]; exact h' rfl
theorem i_iteT {P P' : Prop} {inst : Decidable (true = true)} (h : P) : @ite Prop (true = true) inst P P' := by rw [if_pos rfl]; exact h
instance {P P' : Prop} {inst : Decidable (true = true)} : Go (@ite Prop (true = true) inst P P') (P) := ⟨fun z => i_iteT z⟩
theorem i_iteF {P P' : Prop} {inst : Decidable (false = true)} (h : P') : @ite Prop (false = true) inst P P' := by rw [if_neg Bool.false_ne_true]; exact h
instance {P P' : Prop} {inst : Decidable (false = true)} : Go (@ite Prop (false = true) inst P P') (P') := ⟨fun z => i_iteF z⟩
theorem i_callS {s : SpecD} (q : wA γ fun ds γ1 => s.S ds fun r => Q r.val γ1) : dCallS s wA γ Q := q
instance {s : SpecD} : Go (dCallS s wA γ Q) (wA γ fun ds γ1 => s.S ds fun r => Q r.val γ1) := ⟨fun z => i_callS z⟩
theorem i_callF {s : SpecD} (q : wA γ fun ds γ1 => s.S ds fun r => ∃ es, r = .f es ∧ QF es γ1) : dCallF s wA γ QF := q
instance {s : SpecD} : Go (dCallF s wA γ QF) (wA γ fun ds γ1 => s.S ds fun r => ∃ es, r = .f es ∧ QF es γ1) := ⟨fun z => i_callF z⟩
theorem i_callP {mm : Bool} {s : SpecP} (g : γ[i]? = some (.own mm ds)) (q : wA γ fun ds γ1 => ∃ m pl, γ1[i]? = some (.own m pl) ∧ s.S pl ds fun r pl' => Q r.val (γ1.set i (.own m pl'))) : dCallP i s wA γ Q := ⟨⟨_, _, g⟩, q⟩
theorem i_rf {P : List D → Prop} (q : P ds) : ∃ es, Rv.f ds = .f es ∧ P es := ⟨ds, rfl, q⟩
instance {P : List D → Prop} : Go (∃ es, Rv.f ds = .f es ∧ P es) (P ds) := ⟨fun z => i_rf z⟩
theorem i_for {wi : WA} {wb : WS} (q : wi γ fun ds γ1 => ∃ I : Nat → List Sl → Prop, I 0 γ1 ∧ (∀ i d γ, ds[i]? = some d → I i γ → wg d γ fun γ2 => wb { Dd with nx := I (i + 1), ct := I (i + 1), bk := Dd.nx } γ2) ∧ ∀ γ, I ds.length γ → Dd.nx γ) : dFor wi wg wb Dd γ := q
instance {wi : WA} {wb : WS} : Go (dFor wi wg wb Dd γ) (wi γ fun ds γ1 => ∃ I : Nat → List Sl → Prop, I 0 γ1 ∧ (∀ i d γ, ds[i]? = some d → I i γ → wg d γ fun γ2 => wb { Dd with nx := I (i + 1), ct := I (i + 1), bk := Dd.nx } γ2) ∧ ∀ γ, I ds.length γ → Dd.nx γ) := ⟨fun z => i_for z⟩
/-- what a comprehension over the items asks -/
def LcG (items : List D) (γ : List Sl) (wg : WG) (wt : WT) (we : WE) (vs : List Nat) (QF : List D → List Sl → Prop) : Prop := items.length ≤ sizeLine ∧ (∀ v ∈ vs, ∀ s, γ[v]? = some s → s = .any) ∧ ∃ I : Nat → List D → List Sl → Prop, I 0 [] γ ∧
  (∀ i acc γ d, items[i]? = some d → I i acc γ → (∀ v ∈ vs, ∀ s, γ[v]? = some s → s = .any) ∧ wg d γ fun γ2 => wt γ2 fun b γ3 => if b = true then we γ3 fun y γ4 => I (i + 1) (acc ++ [y]) (wipeG γ4 vs) else I (i + 1) acc (wipeG γ3 vs)) ∧
  ∀ acc γ, I items.length acc γ → (∀ v ∈ vs, ∀ s, γ[v]? = some s → s = .any) ∧ QF acc γ
theorem i_lc {wi : WA} {vs : List Nat} (q : wi γ fun ds γ1 => LcG ds γ1 wg wt we vs QF) : dLc wi wg wt we vs γ QF := q
instance {wi : WA} {vs : List Nat} : Go (dLc wi wg wt we vs γ QF) (wi γ fun ds γ1 => LcG ds γ1 wg wt we vs QF) := ⟨fun z => i_lc z⟩
def anyAt (γ : List Sl) : List Nat → Bool
  | [] => true
  | v :: vs => (match γ[v]? with | none => true | some .any => true | _ => false) && anyAt γ vs
theorem anyAt_ok : ∀ {vs : List Nat}, anyAt γ vs = true → ∀ v ∈ vs, ∀ s, γ[v]? = some s → s = .any
  | u :: us, h, v, hv, s, e => by
    unfold anyAt at h
    rcases List.mem_cons.mp hv with z | z
    · subst z
      rw [e] at h
      cases s <;> first | rfl | (simp at h)
    · have h2 : anyAt γ us = true := by
        cases q : anyAt γ us with
        | true => rfl
        | false => rw [q, Bool.and_false] at h; cases h
      exact anyAt_ok h2 v z s e
end
end DL
set_option Elab.async false
set_option linter.all false
set_option autoImplicit false
set_option maxRecDepth 100000
set_option maxHeartbeats 4000000
/-! DL8: defs of the script. -/
namespace DL
open PySem PySem.Spec PyProof.Rows L2
structure SpecS where
  S : List Int → (Rv → Prop) → Prop
  mono : ∀ ns P P', (∀ r, P r → P' r) → S ns P → S ns P'
def spS (K : PySem.W.Frag) (s : SpecS) : Sp := fun vs H Q _ => ∃ S a ns, vs = [.ref a] ∧ Same S H ∧ SqL K S a (ns.map V.int) ∧ s.S ns fun r => ∀ v S' H', Rel0 K ⟨H, S, [], [], emptyH⟩ S' H' [] [] → RvOk ⟨H, S, [], [], emptyH⟩ S' H' v r → Q v H'
section
variable {X : Xb} {K : PySem.W.Frag} {f : Addr} {fd : FuncData} {ps : List Str} {k : Nat} {x : Str} {e : Expr} {es : List Expr} {p pos : Pos}
def dCallScr (i : Nat) (s : SpecS) : WF := fun γ Q => ∃ ns, γ[i]? = some (.scr ns) ∧ s.S ns fun r => ∃ es, r = .f es ∧ Q es γ
theorem sf_callScr {i : Nat} {s : SpecS} : SF X (tCall (spS X.K s) [] E0 (tCons (tVar i) tNil)) (dCallScr i s) := by
  refine ⟨fun γ P P' k ⟨ns, g, q⟩ => ⟨ns, g, s.mono _ _ _ (fun r ⟨es, e, q⟩ => ⟨es, e, k _ _ q⟩) q⟩, fun B S H σ γ Q R ⟨ns, g, q⟩ => ?_⟩
  obtain ⟨a, f0, f1⟩ := R.sl i _ g
  refine ⟨_, f0, ?_⟩
  show spS X.K s ((.ref a :: []) ++ []) H Q E0
  rw [List.append_nil]
  refine ⟨S, a, ns, rfl, R.same, f1, s.mono _ _ _ (fun r ⟨es, e, q⟩ v S' H' C rv => ?_) q⟩
  subst e
  obtain ⟨b, xs, rfl, k1, k2, k3, k4⟩ := rv
  have k2' : H b = none := k2
  exact q b xs S' H' (R.callN C k2' k3 k1) C.grow k4
theorem df_callScr (K' : PySem.W.Frag) (i : Nat) {s : SpecS} {y : Str} {py : Pos} (F : FnOk X.prog X.w X.K X.mg X.base CX0 k f fd ps (spS K' s)) (hr : Room k X.A) (hm : X.mg x = some (.ref f)) (hk : PySem.W.keepIn X.K (.ref f) = true) (hb : Binds X.K fd ps []) (hN : X.N[i]? = some y := by rfl) (hv : Vis X.env.scope y := by first | exact Or.inl rfl | exact Or.inr (Or.inl rfl) | exact Or.inr (Or.inr rfl)) (hd : (y == ("__debug__" : Str)) = false := by decide)
    (hcd : (y == ("__classdict__" : Str)) = false := by decide) (hg : Gl X x := by rfl)
    (hdb : (x == ("__debug__" : Str)) = false := by decide) (he : starEach (.Name y py :: []) X.env = (false, eval (.Name y py) X.env) :: starEach [] X.env := by rfl) (hpl : (backTo pos (starEach [] X.env)).any (·.1) = false := by rfl) (hK : X.K = K' := by rfl) : DF X (.Call (.Name x p) (.Name y py :: []) [] pos) (tCall (spS K' s) [] E0 (tCons (tVar i) tNil)) (dCallScr i s) := by
  subst hK
  exact ⟨pe_call F hr hg hm hk hb .nil pass0 (pa_cons (pe_var hN hv hd hcd) pa_nil he) hdb he hpl, sf_callScr⟩
theorem i_slS {i : Nat} {γ : List Sl} {ns : List Int} {wl wh : WO} {QF : List D → List Sl → Prop} (g : γ[i]? = some (.scr ns)) (q : wl γ fun l γ2 => wh γ2 fun h γ3 => ∃ ns, γ3[i]? = some (.scr ns) ∧ QF (cutL (ns.map D.int) l h) γ3) : dSlS i wl wh γ QF := ⟨⟨ns, g⟩, q⟩
theorem i_scr2 {i : Nat} {γ : List Sl} {ns : List Int} {P : List Int → Prop} (g : γ[i]? = some (.scr ns)) (q : P ns) : ∃ ms, γ[i]? = some (.scr ms) ∧ P ms := ⟨ns, g, q⟩
end
def gamS (N : List Str) (ns : List Int) : List Sl := .scr ns :: List.replicate (N.length - 1) .any
section
variable {P : Program} {w : World} {K : PySem.W.Frag} {mg : Str → Option Value} {base : Heap} {x qual : Str} {st : Stmt} {f : Addr} {fd : FuncData} {N ps : List Str} {k : Nat}
theorem fn_okS {s : SpecS} (F : Fun K x qual st f fd) (Sc : FnScope N ps (defScope st)) (len : ps.length = 1)
    (hbody : ∀ (cdv : Value) (A : Around) (outer : List Env) (s0 : Shared) (H : Hp) (E : XK), Room k (A.deeper (envOfC qual (defScope st) s0.heap.objs.size f cdv)) →
      ∃ t w', DSs (Xb.of (cxOf CX0 P w K mg base N qual (defScope st) f cdv A outer s0 H E).nox) (defBody st) t w' ∧ ∀ ns Q, s.S ns Q → w' { nx := fun _ => Q (.d .non), rt := fun r _ => Q r } (gamS N ns)) : FnOk P w K mg base CX0 (k + 1) f fd ps (spS K s) := by
  refine F.ok Sc (fun vs H Q E h => ?_) (fun cdv A outer s0 H vs Q E hr h => ?_)
  · obtain ⟨S, a, ns, rfl, _⟩ := h
    exact len.symm
  · obtain ⟨S, a, ns, rfl, e, hS, q⟩ := h
    obtain ⟨t, w', h1, h2⟩ := hbody cdv A outer s0 H E hr
    refine ⟨t, h1.ps, ?_⟩
    have R0 : Rel0 K ⟨H, S, [], [], emptyH⟩ S H (L2.start N [.ref a]) (gamS N ns) := by
      refine ⟨fun _ => emptyH, e, fun a o h _ => h, fun a ha => (by cases ha), Same.refl S, fun a o h => .inl h, rfl.trans (by simp [gamS, L2.start]), fun i s h => ?_, fun i a o e => (by cases e), fun i a o e => (by cases e), fun i j a o u _ e => (by cases e), fun i a o e => (by cases e), fun p o hp => (by cases hp), List.nodup_nil, fun a o e => (by cases e)⟩
      unfold gamS at h
      cases i with
      | zero => cases h; exact ⟨a, rfl, hS⟩
      | succ i =>
        rw [List.getElem?_cons_succ, List.getElem?_replicate] at h
        split at h
        · cases h; trivial
        · cases h
    exact h1.ss.run ⟨H, S, [], [], emptyH⟩ S S H _ (gamS N ns) { nx := fun _ => _, rt := fun r _ => _ } _ (Rel0.of R0) (Same.refl S) ⟨fun S' H' σ' γ' _ R q => q _ _ _ R.nil Den.non, fun S' H' σ' γ' v r _ R rv q => q v _ _ R.nil rv, fun S' H' σ' γ' _ R q => q.elim, fun S' H' σ' γ' _ R q => q.elim⟩ (h2 ns _ q)
end
/-- the law's promise: for at most 63 ints the answer is True -/
def specLaw : SpecS := ⟨fun ns Q => ns.length ≤ 63 ∧ Q (.d (.bl true)), fun ns P P' k q => ⟨q.1, k _ q.2⟩⟩
theorem law_sp {K : PySem.W.Frag} (H : Hp) (a : Addr) (ns : List Int) (hl : ns.length ≤ 63) (hS : SqL K H a (ns.map V.int)) : spS K specLaw [.ref a] H (fun v _ => v = .bl true) fun _ _ _ => False :=
  ⟨H, a, ns, rfl, Same.refl H, hS, hl, fun v S' H' _ rv => by cases rv; rfl⟩

/-! ### the pool of a law: the script's first cells, a place, a great number, a count, a seed -/
def PoolP (pl : List D) : Prop := ∃ (ns : List Int) (ix big cnt seed : Int), pl = [.lst (ns.map D.int), .int ix, .int big, .int cnt, .int seed] ∧ 0 ≤ ix ∧ 0 ≤ big ∧ 0 ≤ seed ∧ seed < 2147483629
def MayDiv (many : Int) : Prop := 0 < many ∧ many.natAbs.log2 < 9000
theorem MayDiv.of {n : Int} (h : 0 < n ∧ n < 18446744073709551616) : MayDiv n := ⟨h.1, (divS (m := 0) h).2⟩
def spec_L_draw : SpecP := SpecP.of (fun many : Int => [.int many]) PoolP MayDiv (fun many r => ∃ n, r = .d (.int n) ∧ 0 ≤ n ∧ n < many)
def tenE49 : Int := 10000000000000000000000000000000000000000000000000
def spec_L_number : SpecP := SpecP.of (fun _ : Unit => []) PoolP (fun _ => True) (fun _ r => ∃ n, r = .d (.int n) ∧ -tenE49 ≤ n ∧ n < tenE49)
def spec_L_pool : SpecS := ⟨fun ns Q => ns.length ≤ 63 ∧ ∀ pl, PoolP pl → Q (.f pl), fun ns P P' k q => ⟨q.1, fun pl h => k _ (q.2 pl h)⟩⟩
theorem draw_i {many : Int} {pl : List D} {P : Rv → List D → Prop} (hp : PoolP pl) (h : MayDiv many) (q : ∀ n pl', 0 ≤ n → n < many → PoolP pl' → P (.d (.int n)) pl') : spec_L_draw.S pl [.int many] P :=
  ⟨hp, many, rfl, h, fun r pl' ⟨n, e, h0, h1⟩ hp' => by subst e; exact q n pl' h0 h1 hp'⟩
end DL
namespace DL
open PySem PySem.Spec PyProof.Rows L2
theorem atI_ex {α : Type} {xs : List α} {i : Int} (h0 : 0 ≤ i) (h : i < xs.length) : ∃ x, atI xs i = some x ∧ xs[i.toNat]? = some x := by
  have hj : i.toNat < xs.length := by omega
  have e := atI_nat (List.getElem?_eq_getElem hj)
  have ei : ((i.toNat : Nat) : Int) = i := by omega
  rw [ei] at e
  exact ⟨xs[i.toNat], e, List.getElem?_eq_getElem hj⟩
theorem atI_int {ns : List Int} {i : Int} (h0 : 0 ≤ i) (h : i < ns.length) : ∃ c, atI (ns.map D.int) i = some (.int c) ∧ ns[i.toNat]? = some c := by
  obtain ⟨x, e1, e2⟩ := atI_ex (xs := ns.map D.int) h0 (by rw [List.length_map]; exact h)
  rw [List.getElem?_map] at e2
  cases q : ns[i.toNat]? with
  | none => rw [q] at e2; cases e2
  | some c => rw [q] at e2; cases e2; exact ⟨c, e1, rfl⟩
end DL
namespace DL
open PySem PySem.Spec PyProof.Rows L2
/-- a comprehension whose tests all fail -/
theorem i_none {items : List D} {vs : List Nat} {γ : List Sl} {QF : List D → List Sl → Prop} {wg : WG} {wt : WT} {we : WE} (hz : items.length ≤ 100000) (ha : anyAt γ vs = true)
    (h : ∀ (i : Nat) d, items[i]? = some d → ∀ R : Bool → List Sl → Prop, (∀ γ4, wipeG γ4 vs = γ → R false γ4) → wg d γ fun γ2 => wt γ2 R) (q : QF [] γ) :
    LcG items γ wg wt we vs QF := by
  refine ⟨smallN hz, anyAt_ok ha, fun i acc γ' => γ' = γ ∧ acc = [], ⟨rfl, rfl⟩, ?_, ?_⟩
  · rintro i acc γ' d hd ⟨rfl, rfl⟩
    exact ⟨anyAt_ok ha, h i d hd _ fun γ4 e => ⟨e, rfl⟩⟩
  · rintro acc γ' ⟨rfl, rfl⟩
    exact ⟨anyAt_ok ha, q⟩
theorem fn_none {P : Program} {w : World} {K : PySem.W.Frag} {mg : Str → Option Value} {base : Heap} {f : Addr} {fd : FuncData} {ps : List Str} {s : SpecD} (h : ∀ ds Q, ¬ s.S ds Q) : FnOk P w K mg base CX0 0 f fd ps (spV K s) := by
  have no : ∀ vs H Q E, ¬ spV K s vs H Q E := fun vs H Q E ⟨S, ds, _, _, q⟩ => h _ _ q
  exact ⟨fun vs H Q E h => absurd h (no vs H Q E), fun A outer s H args us vs Q E _ _ _ _ h => absurd h (no vs H Q E)⟩
/-- data less deep than n -/
def Dep : Nat → D → Prop
  | 0, _ => False
  | n + 1, .lst ds => ds.length ≤ 100000 ∧ ∀ d ∈ ds, Dep n d
  | n + 1, .tup ds => ds.length ≤ 100000 ∧ ∀ d ∈ ds, Dep n d
  | _ + 1, .obj _ _ => False
  | _ + 1, .emp => False
  | _ + 1, .ref _ => False
  | _ + 1, _ => True
theorem Dep.mono {n : Nat} : ∀ {d : D}, Dep n d → Dep (n + 1) d := by
  induction n with
  | zero => intro d h; cases h
  | succ n ih =>
    intro d h
    cases d with
    | lst ds => exact ⟨h.1, fun d hd => ih (h.2 d hd)⟩
    | tup ds => exact ⟨h.1, fun d hd => ih (h.2 d hd)⟩
    | obj C fs => cases h
    | emp => cases h
    | ref p => cases h
    | _ => trivial
theorem Dep.le {n m : Nat} (h : n ≤ m) {d : D} (k : Dep n d) : Dep m d := by
  induction h with
  | refl => exact k
  | step _ ih => exact ih.mono
def spec_L_same (k : Nat) : SpecD := SpecD.of (fun d : D => [d, d]) (Dep k) (fun _ r => r = .d (.bl true))
end DL
namespace DL
open PySem PySem.Spec PyProof.Rows L2
theorem rngD_len (lo : Int) (n : Nat) : (rngD lo n).length = n := by simp [rngD]
theorem rngD_inv {lo : Int} {n i : Nat} {d : D} (h : (rngD lo n)[i]? = some d) : d = .int (lo + (i : Int)) ∧ i < n := by
  have hi : i < n := by
    have := (List.getElem?_eq_some_iff.mp h).1
    rwa [rngD_len] at this
  refine ⟨?_, hi⟩
  unfold rngD at h
  rw [List.getElem?_map, List.getElem?_range hi] at h
  exact (Option.some.inj h).symm
theorem rng0_inv {n i : Nat} {d : D} (h : (rngD 0 n)[i]? = some d) : d = .int (i : Int) ∧ i < n := by
  obtain ⟨e, hi⟩ := rngD_inv h
  rw [Int.zero_add] at e
  exact ⟨e, hi⟩
theorem atI_of {α : Type} {xs : List α} {i : Nat} {x : α} (h : xs[i]? = some x) : atI xs (i : Int) = some x := atI_nat h
end DL
set_option Elab.async false
set_option linter.all false
set_option autoImplicit false
set_option maxRecDepth 100000
set_option maxHeartbeats 4000000
/-! DL9: a list of one's own lent as a value; a walk over two new lists; comprehensions over ranges. -/
namespace DL
open PySem PySem.Spec PyProof.Rows L2
/-- the slots while the list in slot i is lent as a value: other lists of one's own are out of sight -/
def lentS : List Sl → List Sl
  | [] => []
  | .own _ _ :: γ => .any :: lentS γ
  | .ins _ _ _ :: γ => .any :: lentS γ
  | .hp _ _ :: γ => .any :: lentS γ
  | s :: γ => s :: lentS γ
def lent (i : Nat) (ds : List D) (γ : List Sl) : List Sl := (lentS γ).set i (.val (.lst ds))
def lentI (i : Nat) (C : Addr) (fs : List (Str × D)) (γ : List Sl) : List Sl := (lentS γ).set i (.val (.obj C fs))
section
variable {X : Xb} {K : PySem.W.Frag} {B : Bs} {S H : Hp} {σ : L2.St} {γ : List Sl} {i : Nat} {ds : List D}
/-- behind something that has changed nothing that stood -/
theorem Rel.backG {S' S1 H1 : Hp} {γ1 : List Sl} (R : Rel X B S H σ γ) (C : Rel0 X.K ⟨H, S', [], [], emptyH⟩ S1 H1 σ γ1) : Rel X B S H1 σ γ := by
  refine R.with ?_ (Same.refl S)
  obtain ⟨φ, r⟩ := R.r
  have hk : ∀ a o, H a = some o → H1 a = some o := fun a o e => C.keep a o e (by intro z; cases z)
  refine ⟨φ, fun a o e => hk a o (r.same a o e), fun a o e hm => hk a o (r.keep a o e hm), fun a ha => ?_, r.grow, r.ext, r.len, r.sl, fun i a o e => hk a o (r.phH i a o e), r.phS, r.phD, r.phO, fun q o hq => ?_, r.frn, r.spS⟩
  · obtain ⟨h1, h2, zs, h3⟩ := r.muk a ha
    exact ⟨h1, h2, zs, hk a _ h3⟩
  · obtain ⟨h1, h2, h3⟩ := r.frm q o hq
    exact ⟨hk q o h1, h2, h3⟩
end
section
variable {X : Xb} {K : PySem.W.Frag} {e : Expr} {te : TE} {we : WE} {tt : TT} {wt : WT}
/-- a test, the list in slot i lent -/
def dLendT (i : Nat) (wt : WT) : WT := fun γ Q => ∃ m ds, γ[i]? = some (.own m ds) ∧ wt (lent i ds γ) fun b _ => Q b γ
/-- an expression whose value has no parts, the list in slot i lent -/
def dLend (i : Nat) (we : WE) : WE := fun γ Q => ∃ m ds, γ[i]? = some (.own m ds) ∧ we (lent i ds γ) fun d _ => flat d ∧ Q d γ
end
/-! ### for x in [new list, new list] -/
def dForTwo (i : Nat) (wf wf' : WF) (wb : WS) : WS := fun Dd γ => wf γ fun ds γ1 => wf' γ1 fun es γ2 => ∃ M : List Sl → Prop,
  wb { Dd with nx := M, ct := M, bk := Dd.nx } (γ2.set i (.own false ds)) ∧ ∀ γ, M γ → wb { Dd with nx := Dd.nx, ct := Dd.nx, bk := Dd.nx } (γ.set i (.own false es))
section
variable {X : Xb} {a b : Expr} {tf tf' : TE} {wf wf' : WF} {tb : TS} {wb : WS} {body : List Stmt} {pos pl : Pos}
end
/-! ### stepping -/
section
variable {γ : List Sl} {i : Nat} {ds : List D} {we : WE} {wt : WT} {Q : D → List Sl → Prop} {QT : Bool → List Sl → Prop} {QF : List D → List Sl → Prop} {wf wf' : WF} {wb : WS} {Dd : EndsD} {wg : WG}
theorem i_forTwo (q : wf γ fun ds γ1 => wf' γ1 fun es γ2 => ∃ M : List Sl → Prop, wb { Dd with nx := M, ct := M, bk := Dd.nx } (γ2.set i (.own false ds)) ∧ ∀ γ, M γ → wb { Dd with nx := Dd.nx, ct := Dd.nx, bk := Dd.nx } (γ.set i (.own false es))) : dForTwo i wf wf' wb Dd γ := q
instance : Go (dForTwo i wf wf' wb Dd γ) (wf γ fun ds γ1 => wf' γ1 fun es γ2 => ∃ M : List Sl → Prop, wb { Dd with nx := M, ct := M, bk := Dd.nx } (γ2.set i (.own false ds)) ∧ ∀ γ, M γ → wb { Dd with nx := Dd.nx, ct := Dd.nx, bk := Dd.nx } (γ.set i (.own false es))) := ⟨fun z => i_forTwo z⟩
theorem i_flb {b : Bool} {P : Prop} (q : P) : flat (.bl b) ∧ P := ⟨trivial, q⟩
instance {b : Bool} {P : Prop} : Go (flat (.bl b) ∧ P) (P) := ⟨fun z => i_flb z⟩
theorem i_fli {n : Int} {P : Prop} (q : P) : flat (.int n) ∧ P := ⟨trivial, q⟩
instance {n : Int} {P : Prop} : Go (flat (.int n) ∧ P) (P) := ⟨fun z => i_fli z⟩
theorem i_fln {P : Prop} (q : P) : flat .non ∧ P := ⟨trivial, q⟩
instance {P : Prop} : Go (flat .non ∧ P) (P) := ⟨fun z => i_fln z⟩
/-- a comprehension over a range that changes the slots -/
theorem i_mapJ {n : Int} {vs : List Nat} (J : Nat → List D → List Sl → Prop) (hz : n ≤ 100000) (h0 : J 0 [] γ) (ha : ∀ i acc γ', J i acc γ' → anyAt γ' vs = true)
    (h : ∀ (i : Nat) acc γ', (i : Int) < n → J i acc γ' → wg (.int (i : Int)) γ' fun γ2 => we γ2 fun y γ4 => J (i + 1) (acc ++ [y]) (wipeG γ4 vs)) (q : ∀ acc γ', J n.toNat acc γ' → QF acc γ') :
    LcG (rngD 0 n.toNat) γ wg dYes we vs QF := by
  refine ⟨by rw [rngD_len]; exact smallN (by omega), anyAt_ok (ha _ _ _ h0), J, h0, ?_, ?_⟩
  · intro i acc γ' d hd hJ
    obtain ⟨rfl, hi⟩ := rng0_inv hd
    exact ⟨anyAt_ok (ha _ _ _ hJ), h i acc γ' (by omega) hJ⟩
  · intro acc γ' hJ
    rw [rngD_len] at hJ
    exact ⟨anyAt_ok (ha _ _ _ hJ), q acc γ' hJ⟩
end
end DL
set_option Elab.async false
set_option linter.all false
set_option autoImplicit false
set_option maxRecDepth 100000
set_option maxHeartbeats 4000000
/-! DL10: lists told by their places. -/
namespace DL
open PySem PySem.Spec PyProof.Rows L2
/-- the list of n items told by f -/
abbrev dLs (n : Nat) (f : Nat → D) : List D := (List.range n).map f
theorem dLs_len {n : Nat} {f : Nat → D} : (dLs n f).length = n := by simp
theorem dLs_get {n : Nat} {f : Nat → D} {i : Nat} (h : i < n) : (dLs n f)[i]? = some (f i) := by
  unfold dLs
  rw [List.getElem?_map, List.getElem?_range h]
  rfl
theorem dLs_inv {n : Nat} {f : Nat → D} {i : Nat} {d : D} (h : (dLs n f)[i]? = some d) : d = f i ∧ i < n := by
  have hi : i < n := by
    have := (List.getElem?_eq_some_iff.mp h).1
    rwa [dLs_len] at this
  rw [dLs_get hi] at h
  exact ⟨(Option.some.inj h).symm, hi⟩
theorem dLs_rng (n : Nat) : rngD 0 n = dLs n fun i => .int (i : Int) := by
  unfold rngD dLs
  apply List.map_congr_left
  intro i _
  rw [Int.zero_add]
theorem dLs_snoc {n : Nat} {f : Nat → D} : dLs n f ++ [f n] = dLs (n + 1) f := by
  unfold dLs
  rw [List.range_succ, List.map_append]
  rfl
section
variable {γ : List Sl} {we : WE} {QF : List D → List Sl → Prop} {wg : WG} {R : D → Prop}
/-- a comprehension that changes nothing, over items told by places -/
theorem i_mapN {n : Nat} {items : List D} {vs : List Nat} (it : Nat → D) (g : Nat → D) (he : items = dLs n it) (hz : n ≤ 100000) (ha : anyAt γ vs = true)
    (h : ∀ (i : Nat), i < n → ∀ R : D → List Sl → Prop, (∀ γ4, wipeG γ4 vs = γ → R (g i) γ4) → wg (it i) γ fun γ2 => we γ2 R) (q : QF (dLs n g) γ) :
    LcG items γ wg dYes we vs QF := by
  subst he
  refine ⟨by rw [dLs_len]; exact smallN (by omega), anyAt_ok ha, fun i acc γ' => γ' = γ ∧ acc = dLs i g, ⟨rfl, rfl⟩, ?_, ?_⟩
  · rintro i acc γ' d hd ⟨rfl, rfl⟩
    obtain ⟨rfl, hi⟩ := dLs_inv hd
    refine ⟨anyAt_ok ha, ?_⟩
    exact h i (by omega) (fun y γ4 => wipeG γ4 vs = γ' ∧ dLs i g ++ [y] = dLs (i + 1) g) (fun γ4 e => ⟨e, dLs_snoc⟩)
  · rintro acc γ' ⟨rfl, rfl⟩
    refine ⟨anyAt_ok ha, ?_⟩
    rw [dLs_len]
    exact q
theorem i_szL {ds : List D} {Q : Prop} (h : ds.length < 100000) (q : Q) : ds.length < sizeLine ∧ Q := ⟨smallL h, q⟩
end
end DL
namespace DL
open PySem PySem.Spec PyProof.Rows L2
theorem fun_of {K : PySem.W.Frag} {x q : Str} {st : Stmt} {f : Addr} {fd : FuncData} (F : FunD K x q (defArgs st) (defBody st) (defScope st) [] [] f fd) : Fun K x q st f fd := by
  obtain ⟨oc, od, dV, kV, doc, pm, an, cdv, ct, osl, rfl, lk, hcd, hD, _⟩ := F.ex
  rcases hD with ⟨_, rfl⟩ | ⟨e, _⟩
  · exact ⟨⟨oc, od, kV, doc, pm, an, cdv, ct, osl, rfl, lk, hcd⟩, F.kp⟩
  · exact absurd rfl e
end DL
set_option Elab.async false
set_option linter.all false
set_option autoImplicit false
set_option maxRecDepth 100000
set_option maxHeartbeats 4000000
/-! DL11: // and % by any int but 0; while; what is never reached; abs, bit_length. -/
namespace DL
open PySem PySem.Spec PyProof.Rows L2
def TopEnv (l : List Env) : Prop := ∃ env r, l = env :: r ∧ env.scope.isGenerator = false ∧ env.scope.isCoroutine = false ∧ env.builtins = builtinsNs ∧ env.globals = mainGlobals
section
variable {X : Xb} {K : PySem.W.Frag} {a b c e : Expr} {ta tb tc te : TE} {wa wb wc we : WE} {pos p : Pos}
abbrev dFdvA := dOp (dI (fun _ j => j ≠ 0) fun i j => .int (i.fdiv j))
abbrev dModN := dOp (dI (fun _ j => j ≠ 0) fun i j => .int (i.fmod j))
/-! ### never reached -/
def wNo {α : Type} : List Sl → (α → List Sl → Prop) → Prop := fun _ _ => False
def sNo : WS := fun _ _ => False
theorem ds_no {st : Stmt} : DS X st (fun _ _ _ => False) sNo := ⟨ps_never, ⟨fun B S0 S H σ γ Dd D R e L q => q.elim⟩⟩
/-! ### while -/
def dWhile (wt : WT) (wb : WS) : WS := fun Dd γ => ∃ W : Nat → List Sl → Prop, (∃ m, W m γ) ∧ ∀ m γ, W m γ → wt γ fun b γ1 => if b = true then wb { Dd with nx := fun γ' => ∃ m', m' < m ∧ W m' γ', ct := fun γ' => ∃ m', m' < m ∧ W m' γ', bk := Dd.nx } γ1 else Dd.nx γ1
/-- a, b = x, y -/
def dPar (i j : Nat) (wa wb : WE) : WS := fun Dd γ => wa γ fun x γ1 => wb γ1 fun y γ2 => Dd.nx ((γ2.set i (.val x)).set j (.val y))
theorem i_par {γ : List Sl} {Dd : EndsD} {i j : Nat} (q : wa γ fun x γ1 => wb γ1 fun y γ2 => Dd.nx ((γ2.set i (.val x)).set j (.val y))) : dPar i j wa wb Dd γ := q
instance {γ : List Sl} {Dd : EndsD} {i j : Nat} : Go (dPar i j wa wb Dd γ) (wa γ fun x γ1 => wb γ1 fun y γ2 => Dd.nx ((γ2.set i (.val x)).set j (.val y))) := ⟨fun z => i_par z⟩
/-! ### abs, bit_length -/
def absD (ds : List D) (Q : D → Prop) : Prop := ∃ i, ds = [.int i] ∧ Q (.int (if i < 0 then -i else i))
def dBits (wa : WE) : WE := fun γ Q => wa γ fun x γ1 => ∃ i, x = .int i ∧ Q (.int (Builtin.Int.intBits i : Nat)) γ1
end
section
variable {γ : List Sl} {wa wb : WE} {Q : D → List Sl → Prop} {m n : Int} {R : D → Prop} {wt : WT} {wt : WT} {w : WS} {Dd : EndsD}
theorem i_abs (q : R (.int (if n < 0 then -n else n))) : absD [.int n] R := ⟨n, rfl, q⟩
instance : Go (absD [.int n] R) (R (.int (if n < 0 then -n else n))) := ⟨fun z => i_abs z⟩
theorem i_bits (q : wa γ fun x γ1 => ∃ i, x = .int i ∧ Q (.int (Builtin.Int.intBits i : Nat)) γ1) : dBits wa γ Q := q
instance : Go (dBits wa γ Q) (wa γ fun x γ1 => ∃ i, x = .int i ∧ Q (.int (Builtin.Int.intBits i : Nat)) γ1) := ⟨fun z => i_bits z⟩
theorem i_while (q : ∃ W : Nat → List Sl → Prop, (∃ m, W m γ) ∧ ∀ m γ, W m γ → wt γ fun b γ1 => if b = true then w { Dd with nx := fun γ' => ∃ m', m' < m ∧ W m' γ', ct := fun γ' => ∃ m', m' < m ∧ W m' γ', bk := Dd.nx } γ1 else Dd.nx γ1) : dWhile wt w Dd γ := q
instance : Go (dWhile wt w Dd γ) (∃ W : Nat → List Sl → Prop, (∃ m, W m γ) ∧ ∀ m γ, W m γ → wt γ fun b γ1 => if b = true then w { Dd with nx := fun γ' => ∃ m', m' < m ∧ W m' γ', ct := fun γ' => ∃ m', m' < m ∧ W m' γ', bk := Dd.nx } γ1 else Dd.nx γ1) := ⟨fun z => i_while z⟩
end
end DL
set_option Elab.async false
set_option linter.all false
set_option autoImplicit false
set_option maxRecDepth 100000
set_option maxHeartbeats 4000000
/-! DL12: instances: made, read, set, their methods and special methods. -/
namespace DL
open PySem PySem.Spec PyProof.Rows L2
section
variable {X : Xb} {pins : List (Addr × Obj)} {σ : L2.St} {H : Hp} {s : Shared} {A : Around} {CX : CXT} {n : Nat} {f C : Addr} {fd : FuncData} {ps : List Str} {sp : Sp} {E : XK} {Q : VK}
/-- a call of a def from within the library's code -/
theorem fcall {us : List Value} {vs : List V} (F : FnOk X.prog X.w X.K X.mg X.base CX n f fd ps sp) (hr : Room n A) (hfr : A.frames = X.A.frames) (hb : Binds X.K fd ps []) (hx : Passes CX X E) (I : Inv X pins σ H s) (r2 : Vals vs us) (hsp : sp vs H Q E) :
    wpAny (model X.prog X.w) A (call (.ref f) us) (EP X pins σ Q) X.xe s := by
  have e0 : Env0 X.prog X.w X.K X.mg X.base A X.stack s H := by
    have e := I.env0
    exact ⟨by rw [hfr]; exact e.frames, e.mod, e.bs, e.bsz, e.funs, e.frf, e.hok, e.bare⟩
  have hl := F.len _ _ _ _ hsp
  refine wpAny_call (codeAny_mono (F.run A X.stack s H ⟨us, []⟩ us vs Q E hr e0 (by
    have := hb s us I.kIn (by rw [List.append_nil, ← r2.length]; exact hl)
    simpa using this) r2 hsp) fun r s' hq => ?_)
  cases r with
  | error e => exact hx pins σ H s e s' I hq
  | ok fl =>
    cases fl with
    | ret w => exact I.after hq
    | next => exact False.elim hq
    | brk => exact False.elim hq
    | cont => exact False.elim hq
theorem inst_at {a dx : Addr} {fs : List (Str × V)} (I : Inv X pins σ H s) (e : H a = some (.ins C dx fs)) : ∃ ox od, PySem.W.InstAt s.heap a ox C od := by
  obtain ⟨mA, J, _⟩ := ins_get I.hok e
  obtain ⟨od, J, _⟩ := J.look
  exact ⟨_, od, J⟩
/-- x in c, c an instance of an own class -/
def rInO (C : Addr) (sp : Sp) (neg : Bool) (E : XK) : R2 := fun x y H Q => ∃ a dx fs, y = .ref a ∧ H a = some (.ins C dx fs) ∧ sp [.ref a, x] H (fun v H' => ∃ b, v = .bl b ∧ Q (.bl (if neg then !b else b)) H') E
/-- a + b, a, b two instances of an own class; what comes is not NotImplemented -/
def rBinO (C : Addr) (sp : Sp) (E : XK) : R2 := fun x y H Q => ∃ a dx fs b dy gs, x = .ref a ∧ y = .ref b ∧ H a = some (.ins C dx fs) ∧ H b = some (.ins C dy gs) ∧ sp [.ref a, .ref b] H (fun v H' => (∃ p, v = .ref p) ∧ Q v H') E
/-- a == b of two instances of an own class -/
def rCmpO (C : Addr) (sp : Sp) (E : XK) : R2 := fun x y H Q => ∃ a dx fs b dy gs, x = .ref a ∧ y = .ref b ∧ H a = some (.ins C dx fs) ∧ H b = some (.ins C dy gs) ∧ sp [.ref a, .ref b] H (fun v H' => (∃ p, v = .bl p) ∧ Q v H') E
theorem op_eqO (F : FnOk X.prog X.w X.K X.mg X.base CX n f fd ps sp) (hr : Room n X.A) (hs : PySem.W.findIn X.K (.ref C) "__eq__" = some (some (.ref f))) (hf : PySem.W.isFn X.K (.ref f) = true) (hb : Binds X.K fd ps []) (hx : Passes CX X E) : OpR X (compareOp .Eq) (rCmpO C sp E) := by
  intro pins s σ H x y v u Q I rx ry ⟨a, dx, fs, b, dy, gs, ex, ey, ea, eb, q⟩
  subst ex ey
  obtain rfl : v = Value.ref a := rx
  obtain rfl : u = Value.ref b := ry
  obtain ⟨ox, od, J⟩ := inst_at I ea
  obtain ⟨oy, od', J'⟩ := inst_at I eb
  obtain ⟨m, hF⟩ := I.fr
  show wpAny (model X.prog X.w) X.A (richCompare .Eq (.ref a) (.ref b)) (EP X pins σ Q) X.xe s
  refine PySem.W.cmp_K (op := .Eq) (tb := .ref C) hr.units0 hF I.ok.mod.kin J J'.type (by simp [PySem.W.notFirst]) hs hf (wpAny_mono (fcall F hr rfl hb hx (vs := [.ref a, .ref b]) I (.cons rfl (.cons rfl .nil)) q) (fun r s' z => ?_) fun _ _ z => z)
  obtain ⟨v', H', I', rz, ⟨p, ez⟩, q'⟩ := z
  subst ez
  obtain rfl : r = Value.bool p := rz
  exact ⟨.bl p, H', I', rfl, q'⟩
/-- len of an instance -/
def rLenO (C : Addr) (sp : Sp) (E : XK) : List V → Hp → VK → Prop := fun xs H Q => ∃ a dx fs, xs = [.ref a] ∧ H a = some (.ins C dx fs) ∧ sp [.ref a] H (fun v H' => ∃ i : Int, v = .int i ∧ (0 ≤ i ∧ i < 2 ^ 63) ∧ Q (.int i) H') E
theorem call_lenO (F : FnOk X.prog X.w X.K X.mg X.base CX n f fd ps sp) (hr : Room (n + 1) X.A) (hs : PySem.W.findIn X.K (.ref C) "__len__" = some (some (.ref f))) (hf : PySem.W.isFn X.K (.ref f) = true) (hb : Binds X.K fd ps []) (hx : Passes CX X E) : CallR X (.builtin "len") (rLenO C sp E) := by
  intro pins s σ H xs us Q I r ⟨a, dx, fs, ex, ea, q⟩
  subst ex
  obtain ⟨u, rfl, ru⟩ := vals1 r
  obtain rfl : u = Value.ref a := ru
  obtain ⟨ox, od, J⟩ := inst_at I ea
  obtain ⟨m, hF⟩ := I.fr
  refine PySem.W.len_K hF I.ok.mod.kin J hs hf (wpAny_mono (fcall F hr.in1 rfl hb hx (vs := [.ref a]) I (.cons rfl .nil) q) (fun r s' z => ?_) fun _ _ z => z)
  obtain ⟨v', H', I', rz, i, ez, hi, q'⟩ := z
  subst ez
  obtain ⟨t, rfl⟩ := rz
  exact ⟨hi, .int i, H', I'.tok _, ⟨_, rfl⟩, q'⟩
end
end DL
namespace DL
open PySem PySem.Spec PyProof.Rows L2
section
variable {X : Xb} {B : Bs} {S S' H H' : Hp} {σ : L2.St} {γ : List Sl} {v : V} {r : Rv}
/-- what a call hands out, as a value -/
theorem Rel.got (R : Rel X B S H σ γ) (C : Rel0 X.K ⟨H, S, [], [], emptyH⟩ S' H' [] []) (rv : RvOk ⟨H, S, [], [], emptyH⟩ S' H' v r) : ∃ S2, Rel X B S2 H' σ γ ∧ Same S S2 ∧ Den S2 v r.val := by
  cases r with
  | d d => exact ⟨S', R.call C, C.grow, rv⟩
  | f ds' =>
    obtain ⟨a, xs, rfl, k1, k2, k3, k4⟩ := rv
    have k2' : H a = none := k2
    have e6 : Same S' (upd S' a (.lst xs)) := Same.upd (Same.refl S') k1
    exact ⟨_, (R.callN C k2' k3 k1).frzF, C.grow.trans e6, .ofL upd_same (k4.mono e6)⟩
  | o C' fs =>
    obtain ⟨a, dx, xs, rfl, k1, k2, k3, k4⟩ := rv
    have k2' : H a = none := k2
    have e6 : Same S' (upd S' a (.ins C' dx xs)) := Same.upd (Same.refl S') k1
    exact ⟨_, (R.callN C k2' k3 k1).frzF, C.grow.trans e6, .ofO upd_same (k4.mono e6)⟩
/-- a new object out of all sight -/
theorem Rel.newOut {p : Addr} {o : HO} (R : Rel X B S H σ γ) (h : H p = none) : Rel X B S (upd H p o) σ γ := (R.newF h).unfram.1
/-- behind a call that may change what is kept aside at p -/
theorem Rel.callFr {SP : Hp} {p : Addr} {o o' : HO} (R : Rel X (B.fram p o) S H σ γ) (C : Rel0 X.K ⟨H, S, [p], [], SP⟩ S' H' [] []) (k1 : S' p = none) (k2 : H' p = some o') : Rel X (B.fram p o') S' H' σ γ := by
  refine ⟨?_, R.x.mono C.grow⟩
  obtain ⟨φ, r⟩ := R.r
  obtain ⟨h1, h2, h3, h4⟩ := r.frm p o (List.mem_cons_self ..)
  have n : ((p, o) :: B.fr |>.map (·.1)).Nodup := r.frn
  rw [List.map_cons] at n
  have hk : ∀ a o, H a = some o → a ≠ p → H' a = some o := fun a o e n => C.keep a o e (by intro z; exact n (List.mem_singleton.mp z))
  have hS : ∀ a o, H a = some o → S a = none → S' a = none := fun a o e n => by
    cases q : S' a with
    | none => rfl
    | some u =>
      rcases C.ext a u q with z | z
      · have z' : S a = some u := z
        rw [n] at z'; cases z'
      · have z' : H a = none := z
        rw [e] at z'; cases z'
  have np : ∀ {i a u}, φ i a = some u → a ≠ p := fun {i a u} e z => by subst z; rw [h4 i] at e; cases e
  refine ⟨φ, C.same, fun a x e hm => hk a x (r.keep a x e hm) (ne_of_none e h3), fun a ha => ?_, fun a x e => C.grow a x (r.grow a x e), fun a x e => ?_, r.len, fun i s e => (r.sl i s e).mono C.grow, fun i a x e => hk a x (r.phH i a x e) (np e), fun i a x e => hS a x (r.phH i a x e) (r.phS i a x e), r.phD, r.phO, fun q u hq => ?_, ?_, r.spS⟩
  · obtain ⟨f1, ⟨x, f2⟩, y, f3⟩ := r.muk a ha
    exact ⟨f1, ⟨x, f2⟩, y, hk a y f3 (ne_of_none f2 h3)⟩
  · rcases C.ext a x e with z | z
    · exact r.ext a x z
    · exact .inr (r.fresh0 z)
  · rcases List.mem_cons.mp hq with z | z
    · cases z; exact ⟨k2, k1, h3, h4⟩
    · obtain ⟨f1, f2, f3⟩ := r.frm q u (List.mem_cons_of_mem _ z)
      refine ⟨hk q u f1 (fun w => (List.nodup_cons.mp n).1 (by subst w; exact List.mem_map.mpr ⟨_, z, rfl⟩)), hS q u f1 f2, f3⟩
  · show ((p, o') :: B.fr |>.map (·.1)).Nodup
    rw [List.map_cons]
    exact n
end
/-! ### special methods over data -/
structure OpSK (X : Xb) (r : R2) (f : D → D → (D → Prop) → Prop) : Prop where
  mono : ∀ x y (P P' : D → Prop), (∀ d, P d → P' d) → f x y P → f x y P'
  run : ∀ B S H σ γ (Q : VK) v u x y, Rel X B S H σ γ → Den S v x → Den S u y → f x y (fun d => ∀ z S' H', Rel X B S' H' σ γ → Same S S' → Den S' z d → Q z H') → r v u H Q
section
variable {K : PySem.W.Frag} {X : Xb} {a b c e : Expr} {ta tb tc te : TE} {wa wb wc we : WE} {pos p : Pos}
theorem se_opK {r : R2} {f : D → D → (D → Prop) → Prop} (ho : OpSK X r f) (ha : SE X ta wa) (hb : SE X tb wb) : SE X (tOp r ta tb) (dOp f wa wb) := by
  refine ⟨fun γ P P' k q => ha.mono γ _ _ (fun x γ1 q => hb.mono γ1 _ _ (fun y γ2 q => ho.mono x y _ _ (fun d q => k _ _ q) q) q) q, fun B S H σ γ Q R q => ?_⟩
  refine ha.run B S H σ γ _ R (ha.mono γ _ _ (fun x γ1 q v S1 H1 R1 e1 d1 => ?_) q)
  refine hb.run B S1 H1 σ γ1 _ R1 (hb.mono γ1 _ _ (fun y γ2 q u S2 H2 R2 e2 d2 => ?_) q)
  exact ho.run B S2 H2 σ γ2 Q v u x y R2 (d1.mono e2) d2 (ho.mono _ _ _ _ (fun d q z S' H' R' e d' => q z S' H' R' ((e1.trans e2).trans e) d') q)
variable {C f : Addr} {s : SpecD} {k : Nat} {fd : FuncData} {ps : List Str}
def fInO (C : Addr) (s : SpecD) (neg : Bool) (x y : D) (Q : D → Prop) : Prop := ∃ fs, y = .obj C fs ∧ s.S [.obj C fs, x] fun r => ∃ b, r = .d (.bl b) ∧ Q (.bl (if neg then !b else b))
/-- a == b of two instances -/
def fCmpO (C : Addr) (s : SpecD) (x y : D) (Q : D → Prop) : Prop := ∃ fs gs, x = .obj C fs ∧ y = .obj C gs ∧ s.S [.obj C fs, .obj C gs] fun r => ∃ b, r = .d (.bl b) ∧ Q (.bl b)
theorem ops_eqO : OpSK X (rCmpO C (spV X.K s) E0) (fCmpO C s) := by
  refine ⟨fun x y P P' k ⟨fs, gs, e, e', q⟩ => ⟨fs, gs, e, e', s.mono _ _ _ (fun r ⟨b, e, q⟩ => ⟨b, e, k _ q⟩) q⟩, fun B S H σ γ Q v u x y R d1 d2 ⟨fs, gs, e, e', q⟩ => ?_⟩
  subst e e'
  obtain ⟨a, dx, vs, rfl, h1, h2⟩ := d1.obj_inv
  obtain ⟨b, dy, us, rfl, h3, h4⟩ := d2.obj_inv
  refine ⟨a, dx, vs, b, dy, us, rfl, rfl, R.same _ _ h1, R.same _ _ h3, S, [.obj C fs, .obj C gs], R.same, .cons d1 (.cons d2 .nil), s.mono _ _ _ (fun r ⟨b, e, q⟩ v' S' H' C' rv => ?_) q⟩
  subst e
  cases rv
  exact ⟨⟨b, rfl⟩, q _ S' H' (R.call C') C'.grow (.bl _)⟩
theorem de_eqO (K' : PySem.W.Frag) (F : FnOk X.prog X.w X.K X.mg X.base CX0 k f fd ps (spV K' s)) (hr : Room k X.A) (hs : PySem.W.findIn X.K (.ref C) "__eq__" = some (some (.ref f))) (hf : PySem.W.isFn X.K (.ref f) = true) (hb : Binds X.K fd ps []) (ha : DE X a ta wa) (hc : DE X b tb wb) (hK : X.K = K' := by rfl) :
    DE X (.Compare a [.Eq] [b] pos) (tOp (rCmpO C (spV K' s) E0) ta tb) (dOp (fCmpO C s) wa wb) := by
  subst hK
  exact ⟨pe_cmpR (op_eqO F hr hs hf hb pass0) ha.pe hc.pe (nomark _), se_opK ops_eqO ha.se hc.se⟩
/-- a + b of two instances -/
def fAddO (C : Addr) (s : SpecD) (x y : D) (Q : D → Prop) : Prop := ∃ fs gs, x = .obj C fs ∧ y = .obj C gs ∧ s.S [.obj C fs, .obj C gs] fun r => ∃ C' hs, r = .o C' hs ∧ Q (.obj C' hs)
/-- len of an instance -/
def fLenO (C : Addr) (s : SpecD) (ds : List D) (Q : D → Prop) : Prop := ∃ fs, ds = [.obj C fs] ∧ s.S [.obj C fs] fun r => ∃ i, r = .d (.int i) ∧ (0 ≤ i ∧ i < 2 ^ 63) ∧ Q (.int i)
theorem cs_lenO : CallS X (rLenO C (spV X.K s) E0) (fLenO C s) := by
  refine ⟨fun ds P P' k ⟨fs, e, q⟩ => ⟨fs, e, s.mono _ _ _ (fun r ⟨i, e, h, q⟩ => ⟨i, e, h, k _ q⟩) q⟩, fun B S H σ γ Q vs ds R d ⟨fs, e, q⟩ => ?_⟩
  subst e
  obtain ⟨v, rfl, d1⟩ := d.one
  have d1' := d1
  obtain ⟨a, dx, vs, rfl, h1, h2⟩ := d1.obj_inv
  refine ⟨a, dx, vs, rfl, R.same _ _ h1, S, [.obj C fs], R.same, .cons d1' .nil, s.mono _ _ _ (fun r ⟨i, e, h, q⟩ v' S' H' C' rv => ?_) q⟩
  subst e
  cases rv
  exact ⟨i, rfl, h, q _ S' H' (R.call C') C'.grow (.int _)⟩
theorem de_lenOb (K' : PySem.W.Frag) (F : FnOk X.prog X.w X.K X.mg X.base CX0 k f fd ps (spV K' s)) (hr : Room (k + 1) X.A) (hs : PySem.W.findIn X.K (.ref C) "__len__" = some (some (.ref f))) (hf : PySem.W.isFn X.K (.ref f) = true) (hb : Binds X.K fd ps []) {t : TA} {w : WA} (hm : X.mg "len" = none) (ha : DA X [e] t w) (hg : Gl X "len" := by rfl) (he : starEach (e :: []) X.env = (false, eval e X.env) :: starEach [] X.env := by rfl) (hK : X.K = K' := by rfl) :
    DE X (.Call (.Name "len" p) [e] [] pos) (tCB (rLenO C (spV K' s) E0) t) (dCall (fLenO C s) w) := by
  subst hK
  exact de_callB cs_lenO (call_lenO F hr hs hf hb pass0) hm PySem.boot_len ha hg (by decide) (by decide) he
/-! ### attributes and methods of instances that are values -/
def dFld (K : PySem.W.Frag) (f : Str) (wa : WE) : WE := fun γ Q => wa γ fun x γ1 => ∃ C fs d, x = .obj C fs ∧ (Cls K C ∧ NoAttr K C f) ∧ fs.lookup f = some d ∧ Q d γ1
theorem de_fld (K' : PySem.W.Frag) {f : Str} (ha : DE X e ta wa) (hb : attributeBase e f X.env (eval e X.env) = eval e X.env := by rfl) (hK : X.K = K' := by rfl) : DE X (.Attribute e f pos) (tFld K' ta f) (dFld K' f wa) := by
  subst hK
  refine ⟨pe_fld ha.pe hb, fun γ P P' k q => ha.se.mono γ _ _ (fun x γ1 ⟨C, fs, d, e, c, l, q⟩ => ⟨C, fs, d, e, c, l, k _ _ q⟩) q, fun B S H σ γ Q R q => ?_⟩
  refine ha.se.run B S H σ γ _ R (ha.se.mono γ _ _ (fun x γ1 ⟨C, fs, d, e, c, l, q⟩ v S1 H1 R1 e1 d1 => ?_) q)
  subst e
  obtain ⟨a, dx, vs, rfl, h1, h2⟩ := d1.obj_inv
  obtain ⟨u, lu, du⟩ := h2.look l
  exact ⟨a, C, dx, vs, u, rfl, R1.same _ _ h1, c.1, c.2, lu, q u S1 H1 R1 e1 du⟩
def dMeth (C : Addr) (m : Str) (s : SpecD) (wa : WE) (w : WA) : WE := fun γ Q => wa γ fun x γ1 => ∃ fs, x = .obj C fs ∧ fs.lookup m = none ∧ w γ1 fun ds γ2 => s.S (.obj C fs :: ds) fun r => Q r.val γ2
def dMethF (C : Addr) (m : Str) (s : SpecD) (wa : WE) (w : WA) : WF := fun γ Q => wa γ fun x γ1 => ∃ fs, x = .obj C fs ∧ fs.lookup m = none ∧ w γ1 fun ds γ2 => s.S (.obj C fs :: ds) fun r => ∃ es, r = .f es ∧ Q es γ2
theorem se_meth {m : Str} {t : TA} {w : WA} (ha : SE X ta wa) (h : SA X t w) : SE X (tMeth C m (spV X.K s) [] E0 ta t) (dMeth C m s wa w) := by
  refine ⟨fun γ P P' k q => ha.mono γ _ _ (fun x γ1 ⟨fs, e, l, q⟩ => ⟨fs, e, l, h.mono γ1 _ _ (fun ds γ2 q => s.mono _ _ _ (fun r q => k _ _ q) q) q⟩) q, fun B S H σ γ Q R q => ?_⟩
  refine ha.run B S H σ γ _ R (ha.mono γ _ _ (fun x γ1 ⟨fs, e, l, q⟩ v S1 H1 R1 e1 d1 => ?_) q)
  subst e
  have d1' := d1
  obtain ⟨a, dx, vs, rfl, h1, h2⟩ := d1.obj_inv
  refine ⟨a, dx, vs, rfl, R1.same _ _ h1, h2.lookNone l, ?_⟩
  refine h.run B S1 H1 σ γ1 _ R1 (h.mono γ1 _ _ (fun ds γ2 q us S2 H2 R2 e2 d2 => ?_) q)
  show spV X.K s (.ref a :: (us ++ [])) H2 Q E0
  rw [List.append_nil]
  refine ⟨S2, .obj C fs :: ds, R2.same, .cons (d1'.mono e2) d2, s.mono _ _ _ (fun r q v S' H' C' rv => ?_) q⟩
  obtain ⟨S3, R3, e3, dn⟩ := R2.got C' rv
  exact q v S3 H' R3 (e1.trans (e2.trans e3)) dn
theorem sf_meth {m : Str} {t : TA} {w : WA} (ha : SE X ta wa) (h : SA X t w) : SF X (tMeth C m (spV X.K s) [] E0 ta t) (dMethF C m s wa w) := by
  refine ⟨fun γ P P' k q => ha.mono γ _ _ (fun x γ1 ⟨fs, e, l, q⟩ => ⟨fs, e, l, h.mono γ1 _ _ (fun ds γ2 q => s.mono _ _ _ (fun r ⟨es, e, q⟩ => ⟨es, e, k _ _ q⟩) q) q⟩) q, fun B S H σ γ Q R q => ?_⟩
  refine ha.run B S H σ γ _ R (ha.mono γ _ _ (fun x γ1 ⟨fs, e, l, q⟩ v S1 H1 R1 e1 d1 => ?_) q)
  subst e
  have d1' := d1
  obtain ⟨a, dx, vs, rfl, h1, h2⟩ := d1.obj_inv
  refine ⟨a, dx, vs, rfl, R1.same _ _ h1, h2.lookNone l, ?_⟩
  refine h.run B S1 H1 σ γ1 _ R1 (h.mono γ1 _ _ (fun ds γ2 q us S2 H2 R2 e2 d2 => ?_) q)
  show spV X.K s (.ref a :: (us ++ [])) H2 Q E0
  rw [List.append_nil]
  refine ⟨S2, .obj C fs :: ds, R2.same, .cons (d1'.mono e2) d2, s.mono _ _ _ (fun r ⟨es, e, q⟩ v S' H' C' rv => ?_) q⟩
  subst e
  obtain ⟨b, xs, rfl, k1, k2, k3, k4⟩ := rv
  have k2' : H2 b = none := k2
  exact q b xs S' H' (R2.callN C' k2' k3 k1) (e1.trans (e2.trans C'.grow)) k4
section
variable {o : Expr} {m : Str} {es : List Expr} {apos : Pos} {pl : Sem Bool} {t : TA} {w : WA}
theorem de_meth0 (K' : PySem.W.Frag) (he : DE X o ta wa) (c : Cls X.K C) (hm : Meth X.K C m f) (F : FnOk X.prog X.w X.K X.mg X.base CX0 k f fd ps (spV K' s)) (hr : Room k X.A) (hb : Binds X.K fd ps [])
    (ht : eval (.Call (.Attribute o m apos) [] [] pos) X.env = (do
      let ov ← eval o X.env
      standAt apos.atName
      let (f, first) ← holding [ov] (getMethod ov m pl)
      callWith pos f first (backTo pos (starEach [] X.env)) (backToKw pos (keywordEach [] X.env))) := by rfl) (hK : X.K = K' := by rfl) : DE X (.Call (.Attribute o m apos) [] [] pos) (tMeth C m (spV K' s) [] E0 ta tNil) (dMeth C m s wa dNil) := by
  subst hK
  exact ⟨pe_meth0 he.pe c hm F hr hb .nil pass0 ht, se_meth he.se da_nil.sa⟩
theorem df_meth0 (K' : PySem.W.Frag) (he : DE X o ta wa) (c : Cls X.K C) (hm : Meth X.K C m f) (F : FnOk X.prog X.w X.K X.mg X.base CX0 k f fd ps (spV K' s)) (hr : Room k X.A) (hb : Binds X.K fd ps [])
    (ht : eval (.Call (.Attribute o m apos) [] [] pos) X.env = (do
      let ov ← eval o X.env
      standAt apos.atName
      let (f, first) ← holding [ov] (getMethod ov m pl)
      callWith pos f first (backTo pos (starEach [] X.env)) (backToKw pos (keywordEach [] X.env))) := by rfl) (hK : X.K = K' := by rfl) : DF X (.Call (.Attribute o m apos) [] [] pos) (tMeth C m (spV K' s) [] E0 ta tNil) (dMethF C m s wa dNil) := by
  subst hK
  exact ⟨pe_meth0 he.pe c hm F hr hb .nil pass0 ht, sf_meth he.se da_nil.sa⟩
end
end
end DL
set_option Elab.async false
set_option linter.all false
set_option autoImplicit false
set_option maxRecDepth 100000
set_option maxHeartbeats 4000000
/-! DL13: new instances, instances of one's own. -/
namespace DL
open PySem PySem.Spec PyProof.Rows L2
abbrev WN := List Sl → (Addr → List (Str × D) → List Sl → Prop) → Prop
/-- a new instance -/
structure SN (X : Xb) (t : TE) (w : WN) : Prop where
  mono : ∀ γ (P P' : Addr → List (Str × D) → List Sl → Prop), (∀ C fs γ', P C fs γ' → P' C fs γ') → w γ P → w γ P'
  run : ∀ B S H σ γ (Q : VK), Rel X B S H σ γ → w γ (fun C fs γ' => ∀ p dx vs S' H', Rel X (B.fram p (.ins C dx vs)) S' H' σ γ' → Same S S' → DenF S' vs fs → Q (.ref p) H') → t σ H Q
structure DN (X : Xb) (e : Expr) (t : TE) (w : WN) : Prop where
  pe : PE X e t
  sn : SN X t w
section
variable {X : Xb} {K : PySem.W.Frag} {a b c e : Expr} {ta tb tc te : TE} {wa wb wc we : WE} {pos p : Pos} {es : List Expr}
/-- a new instance taken as a value -/
def dVN (w : WN) : WE := fun γ Q => w γ fun C fs γ' => Q (.obj C fs) γ'
theorem se_ofN {t : TE} {w : WN} (h : SN X t w) : SE X t (dVN w) := by
  refine ⟨fun γ P P' k q => h.mono γ _ _ (fun C fs γ' x => k _ _ x) q, fun B S H σ γ Q R q => ?_⟩
  refine h.run B S H σ γ Q R (h.mono γ _ _ (fun C fs γ' k p dx vs S' H' R' e e4 => ?_) q)
  have e6 : Same S' (upd S' p (.ins C dx vs)) := Same.upd (Same.refl S') R'.unfram.2.2.1
  exact k (.ref p) (upd S' p (.ins C dx vs)) H' R'.frzF (e.trans e6) (.ofO upd_same (e4.mono e6))
theorem DN.v {t : TE} {w : WN} (h : DN X e t w) : DE X e t (dVN w) := ⟨h.pe, se_ofN h.sn⟩
end
/-! ### promises of __init__ -/
structure SpecI where
  S : List D → (List (Str × D) → Prop) → Prop
  mono : ∀ ds P P', (∀ fs, P fs → P' fs) → S ds P → S ds P'
def SpecI.of {α : Type} (args : α → List D) (pre : α → Prop) (post : α → List (Str × D)) : SpecI := ⟨fun ds Q => ∃ a, ds = args a ∧ pre a ∧ Q (post a), fun ds P P' k ⟨a, e, h, q⟩ => ⟨a, e, h, k _ q⟩⟩
def spI (K : PySem.W.Frag) (C : Addr) (s : SpecI) : Sp := fun vs H Q _ => ∃ S p dx vs' ds, vs = .ref p :: vs' ∧ Same S H ∧ S p = none ∧ H p = some (.ins C dx []) ∧ DenL S vs' ds ∧
  s.S ds fun fs => ∀ S' H' dx' us, Rel0 K ⟨H, S, [p], [], emptyH⟩ S' H' [] [] → S' p = none → H' p = some (.ins C dx' us) → DenF S' us fs → Q .non H'
section
variable {X : Xb} {K : PySem.W.Frag} {C f : Addr} {fd : FuncData} {ps : List Str} {k : Nat} {x : Str} {e : Expr} {es : List Expr} {t : TA} {w : WA} {p pos : Pos} {s : SpecI}
def dMake (C : Addr) (s : SpecI) (w : WA) : WN := fun γ Q => w γ fun ds γ1 => s.S ds fun fs => Q C fs γ1
theorem sn_make (h : SA X t w) : SN X (tMake C (spI X.K C s) [] E0 t) (dMake C s w) := by
  refine ⟨fun γ P P' k q => h.mono γ _ _ (fun ds γ1 q => s.mono _ _ _ (fun r q => k _ _ _ q) q) q, fun B S H σ γ Q R q => ?_⟩
  refine h.run B S H σ γ _ R (h.mono γ _ _ (fun ds γ1 q vs S1 H1 R1 e1 d1 x dx hx hdx ne => ?_) q)
  rw [List.append_nil]
  have R2 := R1.newOut (o := .own x) hdx
  have hx2 : upd H1 dx (.own x) x = none := by rw [upd_ne (fun z => ne z.symm)]; exact hx
  have R3 := R2.newF (o := .ins C dx []) hx2
  have S3 : S1 x = none := R3.unfram.2.2.1
  refine ⟨S1, x, dx, vs, ds, rfl, R3.same, S3, upd_same, d1, s.mono _ _ _ (fun fs q S' H' dx' us C' k1 k2 k3 => ?_) q⟩
  exact ⟨rfl, q x dx' us S' H' (R3.callFr C' k1 k2) (e1.trans C'.grow) k3⟩
theorem dn_make (K' : PySem.W.Frag) (M : Mk X.K C f) (F : FnOk X.prog X.w X.K X.mg X.base CX0 k f fd ps (spI K' C s)) (hr : Room (k + 1) X.A) (hm : X.mg x = some (.ref C)) (hb : Binds X.K fd ps []) (ha : DA X (e :: es) t w) (hg : Gl X x := by rfl)
    (hdb : (x == ("__debug__" : Str)) = false := by decide) (he : starEach (e :: es) X.env = (false, eval e X.env) :: starEach es X.env := by rfl) (hpl : (backTo pos (starEach es X.env)).any (·.1) = false := by rfl) (hK : X.K = K' := by rfl) :
    DN X (.Call (.Name x p) (e :: es) [] pos) (tMake C (spI K' C s) [] E0 t) (dMake C s w) := by
  subst hK
  exact ⟨pe_make M F hr hg hm hb .nil pass0 ha.pa hdb he hpl, sn_make ha.sa⟩
end
def gamI (N : List Str) (m : Bool) (C : Addr) (ds : List D) : List Sl := .ins m C [] :: (ds.map .val ++ List.replicate (N.length - (ds.length + 1)) .any)
section
variable {P : Program} {w : World} {K : PySem.W.Frag} {mg : Str → Option Value} {base : Heap} {x qual : Str} {st : Stmt} {f C : Addr} {fd : FuncData} {N ps : List Str} {k : Nat}
/-- THE RULE for an __init__ that raises nothing -/
theorem fn_okI {s : SpecI} (F : Fun K x qual st f fd) (Sc : FnScope N ps (defScope st)) (len : ∀ ds Q, s.S ds Q → ds.length + 1 = ps.length)
    (hbody : ∀ (cdv : Value) (A : Around) (outer : List Env) (s0 : Shared) (H : Hp) (E : XK), Room k (A.deeper (envOfC qual (defScope st) s0.heap.objs.size f cdv)) →
      ∃ t w', DSs (Xb.of (cxOf CX0 P w K mg base N qual (defScope st) f cdv A outer s0 H E).nox) (defBody st) t w' ∧ ∀ ds Q, s.S ds Q → w' { nx := fun γ => ∃ fs, γ[0]? = some (.ins true C fs) ∧ Q fs, rt := fun r γ => False } (gamI N true C ds)) : FnOk P w K mg base CX0 (k + 1) f fd ps (spI K C s) := by
  refine F.ok Sc (fun vs H Q E h => ?_) (fun cdv A outer s0 H vs Q E hr h => ?_)
  · obtain ⟨S, p, dx, vs', ds, rfl, e, h1, h2, hd, q⟩ := h
    rw [List.length_cons, hd.1]
    exact len _ _ q
  · obtain ⟨S, p, dx, vs', ds, rfl, e, h1, h2, hd, q⟩ := h
    obtain ⟨t, w', k1, k2⟩ := hbody cdv A outer s0 H E hr
    refine ⟨t, k1.ps, ?_⟩
    have R0 : Rel0 K ⟨H, S, [p], [], emptyH⟩ S H (L2.start N (.ref p :: vs')) (gamI N true C ds) := start_relT e (fun a o e => (by cases e)) h1 h2 (s := .ins true C []) ⟨p, dx, [], rfl, upd_same, .nil, fun _ => List.mem_singleton.mpr rfl⟩ rfl hd
    refine k1.ss.run ⟨H, S, [p], [], emptyH⟩ S S H _ (gamI N true C ds) { nx := fun γ => ∃ fs, γ[0]? = some (.ins true C fs) ∧ _, rt := fun r γ => False } _ (Rel0.of R0) (Same.refl S) ⟨fun S' H' σ' γ' _ R ⟨fs, g, q⟩ => ?_, fun S' H' σ' γ' v r _ R rv q => q.elim, fun S' H' σ' γ' _ R q => q.elim, fun S' H' σ' γ' _ R q => q.elim⟩ (k2 ds _ q)
    obtain ⟨q', dx', us, f1, f2, f3, f4, f5⟩ := R.sl 0 _ g
    have : q' = p := List.mem_singleton.mp (f5 rfl)
    subst this
    exact q _ _ dx' us R.nil f2 f3 f4
end
/-! ### instances of one's own -/
section
variable {X : Xb} {K : PySem.W.Frag} {a b c e : Expr} {ta tb tc te : TE} {wa wb wc we : WE} {pos p : Pos}
/-- x = C(..), kept as one's own -/
def dSetN (i : Nat) (w : WN) : WS := fun Dd γ => w γ fun C fs γ1 => Dd.nx (γ1.set i (.ins false C fs))
/-- return C(..) -/
def dRetN' (w : WN) : WS := fun Dd γ => w γ fun C fs γ1 => Dd.rt (.o C fs) γ1
/-- return of an instance of one's own, at a name -/
def dRetI (i : Nat) : WS := fun Dd γ => ∃ C fs, γ[i]? = some (.ins false C fs) ∧ Dd.rt (.o C fs) (γ.set i .any)
/-- an instance of one's own as a value from here on -/
def dVarI (i : Nat) : WE := fun γ Q => ∃ C fs, γ[i]? = some (.ins false C fs) ∧ Q (.obj C fs) (γ.set i (.val (.obj C fs)))
/-- x.f, x an instance of one's own -/
def dFldI (K : PySem.W.Frag) (i : Nat) (f : Str) : WE := fun γ Q => ∃ m C fs d, γ[i]? = some (.ins m C fs) ∧ (Cls K C ∧ NoAttr K C f) ∧ fs.lookup f = some d ∧ Q d γ
/-- x.f = e, x an instance of one's own -/
def dPutI (K : PySem.W.Frag) (i : Nat) (f : Str) (we : WE) : WS := fun Dd γ => we γ fun d γ1 => ∃ m C fs, γ1[i]? = some (.ins m C fs) ∧ (Cls K C ∧ NoAttr K C f) ∧ fs.length < 1000 ∧ Dd.nx (γ1.set i (.ins m C (putD f d fs)))
theorem ds_putI (K' : PySem.W.Frag) (i : Nat) {x f : Str} {px pa : Pos} (h : DE X e te we) (hN : X.N[i]? = some x := by rfl) (hv : Vis X.env.scope x := by first | exact Or.inl rfl | exact Or.inr (Or.inl rfl) | exact Or.inr (Or.inr rfl)) (hd : (x == ("__debug__" : Str)) = false := by decide)
    (hcd : (x == ("__classdict__" : Str)) = false := by decide) (hs : swapsWith e (some (.Attribute (.Name x px) f pa)) pos.line X.env = pure false := by rfl) (hK : X.K = K' := by rfl) : DS X (.Assign [.Attribute (.Name x px) f pa] e pos) (sFld K' (tVar i) te f) (dPutI K' i f we) := by
  subst hK
  refine ⟨ps_fld (pe_var hN hv hd hcd) h.pe hs, ⟨fun B S0 S H σ γ Dd D R e L q => ?_⟩⟩
  refine h.se.run B S H σ γ _ R (h.se.mono γ _ _ (fun d γ1 ⟨m, C, fs, g, c, hl, q⟩ v S1 H1 R1 e1 d1 => ?_) q)
  obtain ⟨p, dx, vs, f1, f2, f3, f4, f5⟩ := R1.sl i _ g
  exact ⟨.ref p, f1, p, C, dx, vs, rfl, f3, c.1, c.2, by rw [f4.1]; exact hl, L.nx S1 _ σ _ (e.trans e1) (R1.chgI (vs := vs) g f1 (f4.put d1)) q⟩
/-- is, is not of bools -/
def fIsB (neg : Bool) (x y : D) (Q : D → Prop) : Prop := ∃ a b, x = .bl a ∧ y = .bl b ∧ Q (.bl (if neg then !decide (a = b) else decide (a = b)))
theorem ops_isBl : OpS rIsB (fIsB false) := by
  refine ⟨fun x y P P' k ⟨a, b, e, e', q⟩ => ⟨a, b, e, e', k _ q⟩, fun X B S H σ γ Q v u x y R d1 d2 ⟨a, b, e, e', q⟩ => ?_⟩
  subst e e'
  cases d1
  cases d2
  exact ⟨a, b, rfl, rfl, q _ S H R (Same.refl S) (.bl _)⟩
theorem ops_isnotBl : OpS rNotB (fIsB true) := by
  refine ⟨fun x y P P' k ⟨a, b, e, e', q⟩ => ⟨a, b, e, e', k _ q⟩, fun X B S H σ γ Q v u x y R d1 d2 ⟨a, b, e, e', q⟩ => ?_⟩
  subst e e'
  cases d1
  cases d2
  exact ⟨a, b, rfl, rfl, q _ S H R (Same.refl S) (.bl _)⟩
theorem de_isBl (ha : DE X a ta wa) (hb : DE X b tb wb) : DE X (.Compare a [.Is] [b] pos) (tOp rIsB ta tb) (dOp (fIsB false) wa wb) := de_cmp op_isBl ops_isBl ha hb (nomark _)
theorem dt_isnotBl (ha : DE X a ta wa) (hb : DE X b tb wb) : DT X (.Compare a [.IsNot] [b] pos) (tTest (tOp rNotB ta tb)) (dB (dOp (fIsB true) wa wb)) := dt_cmp op_notBl ops_isnotBl ha hb (nomark _)
end
/-! ### stepping -/
section
variable {γ : List Sl} {i : Nat} {ds : List D} {d : D} {C : Addr} {fs : List (Str × D)} {f : Str} {K : PySem.W.Frag} {we wa : WE} {w : WA} {wn : WN} {Q : D → List Sl → Prop} {QF : List D → List Sl → Prop} {QN : Addr → List (Str × D) → List Sl → Prop} {Dd : EndsD} {s : SpecI} {sd : SpecD} {m : Str} {R : D → Prop} {mm : Bool}
theorem i_vn (q : wn γ fun C fs γ' => Q (.obj C fs) γ') : dVN wn γ Q := q
instance : Go (dVN wn γ Q) (wn γ fun C fs γ' => Q (.obj C fs) γ') := ⟨fun z => i_vn z⟩
theorem i_make (q : w γ fun ds γ1 => s.S ds fun fs => QN C fs γ1) : dMake C s w γ QN := q
instance : Go (dMake C s w γ QN) (w γ fun ds γ1 => s.S ds fun fs => QN C fs γ1) := ⟨fun z => i_make z⟩
theorem i_setN (q : wn γ fun C fs γ1 => Dd.nx (γ1.set i (.ins false C fs))) : dSetN i wn Dd γ := q
instance : Go (dSetN i wn Dd γ) (wn γ fun C fs γ1 => Dd.nx (γ1.set i (.ins false C fs))) := ⟨fun z => i_setN z⟩
theorem i_retNew (q : wn γ fun C fs γ1 => Dd.rt (.o C fs) γ1) : dRetN' wn Dd γ := q
instance : Go (dRetN' wn Dd γ) (wn γ fun C fs γ1 => Dd.rt (.o C fs) γ1) := ⟨fun z => i_retNew z⟩
theorem i_putI (q : we γ fun d γ1 => ∃ m C fs, γ1[i]? = some (.ins m C fs) ∧ (Cls K C ∧ NoAttr K C f) ∧ fs.length < 1000 ∧ Dd.nx (γ1.set i (.ins m C (putD f d fs)))) : dPutI K i f we Dd γ := q
instance : Go (dPutI K i f we Dd γ) (we γ fun d γ1 => ∃ m C fs, γ1[i]? = some (.ins m C fs) ∧ (Cls K C ∧ NoAttr K C f) ∧ fs.length < 1000 ∧ Dd.nx (γ1.set i (.ins m C (putD f d fs)))) := ⟨fun z => i_putI z⟩
theorem i_putI2 {F : Bool → Addr → List (Str × D) → Prop} (g : γ[i]? = some (.ins mm C fs)) (c : Cls K C ∧ NoAttr K C f) (hl : fs.length < 1000) (q : F mm C fs) : ∃ m C fs, γ[i]? = some (.ins m C fs) ∧ (Cls K C ∧ NoAttr K C f) ∧ fs.length < 1000 ∧ F m C fs := ⟨mm, C, fs, g, c, hl, q⟩
theorem i_fld (q : wa γ fun x γ1 => ∃ C fs d, x = .obj C fs ∧ (Cls K C ∧ NoAttr K C f) ∧ fs.lookup f = some d ∧ Q d γ1) : dFld K f wa γ Q := q
instance : Go (dFld K f wa γ Q) (wa γ fun x γ1 => ∃ C fs d, x = .obj C fs ∧ (Cls K C ∧ NoAttr K C f) ∧ fs.lookup f = some d ∧ Q d γ1) := ⟨fun z => i_fld z⟩
theorem i_fld2 {F : D → Prop} (c : Cls K C ∧ NoAttr K C f) (l : fs.lookup f = some d) (q : F d) : ∃ C' fs' d', D.obj C fs = .obj C' fs' ∧ (Cls K C' ∧ NoAttr K C' f) ∧ fs'.lookup f = some d' ∧ F d' := ⟨C, fs, d, rfl, c, l, q⟩
theorem i_meth (q : wa γ fun x γ1 => ∃ fs, x = .obj C fs ∧ fs.lookup m = none ∧ w γ1 fun ds γ2 => sd.S (.obj C fs :: ds) fun r => Q r.val γ2) : dMeth C m sd wa w γ Q := q
instance : Go (dMeth C m sd wa w γ Q) (wa γ fun x γ1 => ∃ fs, x = .obj C fs ∧ fs.lookup m = none ∧ w γ1 fun ds γ2 => sd.S (.obj C fs :: ds) fun r => Q r.val γ2) := ⟨fun z => i_meth z⟩
theorem i_methF (q : wa γ fun x γ1 => ∃ fs, x = .obj C fs ∧ fs.lookup m = none ∧ w γ1 fun ds γ2 => sd.S (.obj C fs :: ds) fun r => ∃ es, r = .f es ∧ QF es γ2) : dMethF C m sd wa w γ QF := q
instance : Go (dMethF C m sd wa w γ QF) (wa γ fun x γ1 => ∃ fs, x = .obj C fs ∧ fs.lookup m = none ∧ w γ1 fun ds γ2 => sd.S (.obj C fs :: ds) fun r => ∃ es, r = .f es ∧ QF es γ2) := ⟨fun z => i_methF z⟩
theorem i_meth2 {F : List (Str × D) → Prop} (l : fs.lookup m = none) (q : F fs) : ∃ fs', D.obj C fs = .obj C fs' ∧ fs'.lookup m = none ∧ F fs' := ⟨fs, rfl, l, q⟩
theorem i_inO {neg : Bool} {x : D} (q : sd.S [.obj C fs, x] fun r => ∃ b, r = .d (.bl b) ∧ R (.bl (if neg then !b else b))) : fInO C sd neg x (.obj C fs) R := ⟨fs, rfl, q⟩
instance {neg : Bool} {x : D} : Go (fInO C sd neg x (.obj C fs) R) (sd.S [.obj C fs, x] fun r => ∃ b, r = .d (.bl b) ∧ R (.bl (if neg then !b else b))) := ⟨fun z => i_inO z⟩
theorem i_eqO {gs : List (Str × D)} (q : sd.S [.obj C fs, .obj C gs] fun r => ∃ b, r = .d (.bl b) ∧ R (.bl b)) : fCmpO C sd (.obj C fs) (.obj C gs) R := ⟨fs, gs, rfl, rfl, q⟩
instance {gs : List (Str × D)} : Go (fCmpO C sd (.obj C fs) (.obj C gs) R) (sd.S [.obj C fs, .obj C gs] fun r => ∃ b, r = .d (.bl b) ∧ R (.bl b)) := ⟨fun z => i_eqO z⟩
theorem i_addO {gs : List (Str × D)} (q : sd.S [.obj C fs, .obj C gs] fun r => ∃ C' hs, r = .o C' hs ∧ R (.obj C' hs)) : fAddO C sd (.obj C fs) (.obj C gs) R := ⟨fs, gs, rfl, rfl, q⟩
instance {gs : List (Str × D)} : Go (fAddO C sd (.obj C fs) (.obj C gs) R) (sd.S [.obj C fs, .obj C gs] fun r => ∃ C' hs, r = .o C' hs ∧ R (.obj C' hs)) := ⟨fun z => i_addO z⟩
theorem i_lenOb (q : sd.S [.obj C fs] fun r => ∃ i, r = .d (.int i) ∧ (0 ≤ i ∧ i < 2 ^ 63) ∧ R (.int i)) : fLenO C sd [.obj C fs] R := ⟨fs, rfl, q⟩
instance : Go (fLenO C sd [.obj C fs] R) (sd.S [.obj C fs] fun r => ∃ i, r = .d (.int i) ∧ (0 ≤ i ∧ i < 2 ^ 63) ∧ R (.int i)) := ⟨fun z => i_lenOb z⟩
theorem i_isBl {x y : Bool} (q : R (.bl (decide (x = y)))) : fIsB false (.bl x) (.bl y) R := ⟨x, y, rfl, rfl, q⟩
instance {x y : Bool} : Go (fIsB false (.bl x) (.bl y) R) (R (.bl (decide (x = y)))) := ⟨fun z => i_isBl z⟩
theorem i_isnotBl {x y : Bool} (q : R (.bl (!decide (x = y)))) : fIsB true (.bl x) (.bl y) R := ⟨x, y, rfl, rfl, q⟩
instance {x y : Bool} : Go (fIsB true (.bl x) (.bl y) R) (R (.bl (!decide (x = y)))) := ⟨fun z => i_isnotBl z⟩
theorem i_rbl {b : Bool} {P : Bool → Prop} (q : P b) : ∃ c, Rv.d (.bl b) = .d (.bl c) ∧ P c := ⟨b, rfl, q⟩
instance {b : Bool} {P : Bool → Prop} : Go (∃ c, Rv.d (.bl b) = .d (.bl c) ∧ P c) (P b) := ⟨fun z => i_rbl z⟩
theorem i_isO2 {P : Prop} (q : P) : (∀ C' fs', D.obj C fs = .obj C' fs' → C' = C) ∧ P := ⟨fun C' fs' e => by cases e; rfl, q⟩
instance {P : Prop} : Go ((∀ C' fs', D.obj C fs = .obj C' fs' → C' = C) ∧ P) (P) := ⟨fun z => i_isO2 z⟩
end
end DL
set_option Elab.async false
set_option linter.all false
set_option autoImplicit false
set_option maxRecDepth 100000
set_option maxHeartbeats 4000000
/-! DL14: tuple(x), list * n, x in a list of scalars, comprehensions with tests, calls that hand out instances. -/
namespace DL
open PySem PySem.Spec PyProof.Rows L2
section
variable {X : Xb} {K : PySem.W.Frag} {a b c e : Expr} {ta tb tc te : TE} {wa wb wc we : WE} {pos p : Pos}
/-- tuple(x) -/
def dTupOf (wa : WE) : WE := fun γ Q => wa γ fun x γ1 => ∃ ds, (x = .lst ds ∨ x = .tup ds) ∧ Q (.tup ds) γ1
theorem de_tupleOf (K' : PySem.W.Frag) (hm : X.mg "tuple" = none) (ha : DE X a ta wa) (hg : Gl X "tuple" := by rfl) (he : starEach (a :: []) X.env = (false, eval a X.env) :: starEach [] X.env := by rfl) (hK : X.K = K' := by rfl) : DE X (.Call (.Name "tuple" p) [a] [] pos) (tCB (fun xs H Q => ∃ p ys, xs = [.ref p] ∧ ((SqL K' H p ys ∧ ∀ l, H l = none → Q (.ref l) (upd H l (.tup ys))) ∨ (SqT K' H p ys ∧ Q (.ref p) H))) (tCons ta tNil)) (dTupOf wa) := by
  subst hK
  refine ⟨pe_callTy call_tuple_of hg hm (by decide +kernel) (pa_cons ha.pe pa_nil he) (by decide) (by decide) he, fun γ P P' k q => ha.se.mono γ _ _ (fun x γ1 ⟨ds, e, q⟩ => ⟨ds, e, k _ _ q⟩) q, fun B S H σ γ Q R q => ?_⟩
  refine ha.se.run B S H σ γ _ R (ha.se.mono γ _ _ (fun x γ1 ⟨ds, e, q⟩ v S1 H1 R1 e1 d1 => ?_) q)
  rcases e with e | e
  · subst e
    obtain ⟨a, xs, rfl, g2, g3⟩ := d1.lst_inv
    refine ⟨a, xs, rfl, .inl ⟨SqL.of (R1.same _ _ g2), fun l hl => ?_⟩⟩
    have e4 : Same S1 (upd S1 l (.tup xs)) := Same.upd (Same.refl S1) (R1.freshS hl)
    exact q _ _ _ (R1.new hl) (e1.trans e4) (.ofT upd_same (g3.mono e4))
  · subst e
    have d1' := d1
    obtain ⟨a, xs, rfl, g2, g3⟩ := d1.tup_inv
    exact ⟨a, xs, rfl, .inr ⟨SqT.of (R1.same _ _ g2), q _ S1 H1 R1 e1 d1'⟩⟩
/-- xs * n -/
def dRep (wa wb : WE) : WF := fun γ Q => wa γ fun x γ1 => wb γ1 fun y γ2 => ∃ ds k, x = .lst ds ∧ y = .int k ∧ (-(2 ^ 63) ≤ k ∧ k < 2 ^ 63 ∧ ds.length * k.toNat ≤ sizeLine) ∧ Q (List.replicate k.toNat ds).flatten γ2
/-- x in xs, all of them scalars -/
def scalL (ds : List D) (vs : List V) : Prop := ds.map scalD = vs.map some
theorem scalL_den {S : Hp} : ∀ {ds : List D} {vs xs : List V}, DenL S xs ds → scalL ds vs → xs = vs
  | [], [], xs, h, _ => h.nil_inv
  | [], _ :: _, _, _, e => by cases e
  | _ :: _, [], _, _, e => by cases e
  | d :: ds, v :: vs, xs, h, e => by
    obtain ⟨x, r, rfl, h1, h2⟩ := h.cons_inv
    have e1 : scalD d = some v := (List.cons.inj e).1
    have e2 : scalL ds vs := (List.cons.inj e).2
    rw [scalD_den h1 e1, scalL_den h2 e2]
theorem scal_flat {d : D} {v : V} (h : scalD d = some v) : flatV v = true := by
  cases d <;> first | (cases h; rfl) | cases h
theorem scalL_flat : ∀ {ds : List D} {vs : List V}, scalL ds vs → vs.all flatV = true
  | [], [], _ => rfl
  | [], _ :: _, e => by cases e
  | _ :: _, [], e => by cases e
  | d :: ds, v :: vs, e => by
    rw [List.all_cons, scal_flat (List.cons.inj e).1, scalL_flat (ds := ds) (List.cons.inj e).2]
    rfl
def fInL (neg : Bool) (x y : D) (Q : D → Prop) : Prop := ∃ ds v vs, (y = .lst ds ∨ y = .tup ds) ∧ scalD x = some v ∧ scalL ds vs ∧ Q (.bl (if neg then !inV v vs else inV v vs))
theorem ops_inL {neg : Bool} : OpSK X (rIn K neg) (fInL neg) := by
  refine ⟨fun x y P P' k ⟨ds, v, vs, e, h1, h2, q⟩ => ⟨ds, v, vs, e, h1, h2, k _ q⟩, fun B S H σ γ Q v u x y R d1 d2 ⟨ds, w, vs, e, h1, h2, q⟩ => ?_⟩
  have ev := scalD_den d1 h1
  subst ev
  rcases e with e | e
  · subst e
    obtain ⟨a, xs, rfl, g2, g3⟩ := d2.lst_inv
    have ex := scalL_den g3 h2
    subst ex
    exact ⟨a, xs, rfl, .inl (SqL.of (R.same _ _ g2)), scal_flat h1, scalL_flat h2, q _ S H R (Same.refl S) (.bl _)⟩
  · subst e
    obtain ⟨a, xs, rfl, g2, g3⟩ := d2.tup_inv
    have ex := scalL_den g3 h2
    subst ex
    exact ⟨a, xs, rfl, .inr (SqT.of (R.same _ _ g2)), scal_flat h1, scalL_flat h2, q _ S H R (Same.refl S) (.bl _)⟩
theorem dt_inL (K' : PySem.W.Frag) (ha : DE X a ta wa) (hb : DE X b tb wb) (hm : behindInMarks .In b = false := by rfl) (hK : X.K = K' := by rfl) : DT X (.Compare a [.In] [b] pos) (tTest (tOp (rIn K' false) ta tb)) (dB (dOp (fInL false) wa wb)) := by
  subst hK; exact ⟨pt_cmpR op_in_seq ha.pe hb.pe hm, st_test (se_opK ops_inL ha.se hb.se)⟩
/-- a call that hands out a new instance -/
def dCallN (s : SpecD) (w : WA) : WN := fun γ Q => w γ fun ds γ1 => s.S ds fun r => ∃ C fs, r = .o C fs ∧ Q C fs γ1
end
section
variable {γ : List Sl} {wa wb we : WE} {Q : D → List Sl → Prop} {QF : List D → List Sl → Prop} {QN : Addr → List (Str × D) → List Sl → Prop} {m n : Int} {R : D → Prop} {wt : WT} {wg : WG} {ds : List D} {w : WA} {s : SpecD}
theorem i_tupOf (q : wa γ fun x γ1 => ∃ ds, (x = .lst ds ∨ x = .tup ds) ∧ Q (.tup ds) γ1) : dTupOf wa γ Q := q
instance : Go (dTupOf wa γ Q) (wa γ fun x γ1 => ∃ ds, (x = .lst ds ∨ x = .tup ds) ∧ Q (.tup ds) γ1) := ⟨fun z => i_tupOf z⟩
theorem i_rep (q : wa γ fun x γ1 => wb γ1 fun y γ2 => ∃ ds k, x = .lst ds ∧ y = .int k ∧ (-(2 ^ 63) ≤ k ∧ k < 2 ^ 63 ∧ ds.length * k.toNat ≤ sizeLine) ∧ QF (List.replicate k.toNat ds).flatten γ2) : dRep wa wb γ QF := q
instance : Go (dRep wa wb γ QF) (wa γ fun x γ1 => wb γ1 fun y γ2 => ∃ ds k, x = .lst ds ∧ y = .int k ∧ (-(2 ^ 63) ≤ k ∧ k < 2 ^ 63 ∧ ds.length * k.toNat ≤ sizeLine) ∧ QF (List.replicate k.toNat ds).flatten γ2) := ⟨fun z => i_rep z⟩
theorem i_callN (q : w γ fun ds γ1 => s.S ds fun r => ∃ C fs, r = .o C fs ∧ QN C fs γ1) : dCallN s w γ QN := q
instance : Go (dCallN s w γ QN) (w γ fun ds γ1 => s.S ds fun r => ∃ C fs, r = .o C fs ∧ QN C fs γ1) := ⟨fun z => i_callN z⟩
theorem i_ro {C : Addr} {fs : List (Str × D)} {P : Addr → List (Str × D) → Prop} (q : P C fs) : ∃ C' fs', Rv.o C fs = .o C' fs' ∧ P C' fs' := ⟨C, fs, rfl, q⟩
instance {C : Addr} {fs : List (Str × D)} {P : Addr → List (Str × D) → Prop} : Go (∃ C' fs', Rv.o C fs = .o C' fs' ∧ P C' fs') (P C fs) := ⟨fun z => i_ro z⟩
end
end DL
set_option Elab.async false
set_option linter.all false
set_option autoImplicit false
set_option maxRecDepth 100000
set_option maxHeartbeats 4000000
/-! DL15: own classes and their methods as they stand; constants of the module. -/
namespace DL
open PySem PySem.Spec PyProof.Rows L2
/-- a method of an own class: where it stands -/
structure Gm (K : PySem.W.Frag) (C : Addr) (m qual : Str) (st : Stmt) (ps : List Str) : Type where
  f : Addr
  fd : FuncData
  F : Fun K m qual st f fd
  meth : Meth K C m f
  b : Binds K fd ps []
section
variable {K : PySem.W.Frag} {C : Addr} {m qual : Str} {st : Stmt} {ps : List Str}
theorem Gm.at (G : Gm K C m qual st ps) : PySem.W.findIn K (.ref C) m = some (some (.ref G.f)) := G.meth.at_
theorem Gm.fn (G : Gm K C m qual st ps) : PySem.W.isFn K (.ref G.f) = true := G.meth.fn
end
/-- an own class: where it stands; the names of its attributes are no names of the class -/
structure Tc (K : PySem.W.Frag) (mg : Str → Option Value) (nm : Str) (fields : List Str) : Type where
  C : Addr
  own : OwnCls K C
  g : mg nm = some (.ref C)
  first : PySem.W.selfFirst K C = true
  no : ∀ f ∈ fields, NoAttr K C f
  makes : PySem.W.makesIn K C = true
  kp : PySem.W.keepIn K (.ref C) = true
section
variable {K : PySem.W.Frag} {mg : Str → Option Value} {nm : Str} {fields : List Str} {qual : Str} {st : Stmt} {ps : List Str}
theorem Tc.mkOf (T : Tc K mg nm fields) (G : Gm K T.C "__init__" qual st ps) : Mk K T.C G.f := ⟨T.makes, G.meth.at_, G.meth.fn, T.kp⟩
theorem Tc.fld (T : Tc K mg nm fields) {f : Str} (h : f ∈ fields := by decide) : Cls K T.C ∧ NoAttr K T.C f := ⟨T.own.cl, T.no f h⟩
end
section
variable {X : Xb} {pos : Pos} {x : Str}
/-- an int of the module -/
theorem de_globI {i : Int} (hm : ∃ t, X.mg x = some (.int i t)) (hg : Gl X x := by rfl) (hd : (x == ("__debug__" : Str)) = false := by decide) : DE X (.Name x pos) (tC (.int i)) (dC (.int i)) :=
  ⟨let ⟨t, h⟩ := hm; pe_glob hg h ⟨t, rfl⟩ hd, se_c fun _ => .int i⟩
end
/-! ### rows of ints as data -/
abbrev intL (ns : List Int) : List D := ns.map D.int
abbrev rowsD (B : List (List Int)) : List D := B.map fun r => .lst (intL r)
theorem intL_append (a b : List Int) : intL (a ++ b) = intL a ++ intL b := List.map_append
/-- what a row stands for, place by place -/
def rowAt (B : List (List Int)) (i : Nat) : List Int := B.getD i []
end DL
set_option Elab.async false
set_option linter.all false
set_option autoImplicit false
set_option maxRecDepth 100000
set_option maxHeartbeats 4000000
/-! DL16: calls that draw and hand out a new list; the same with a list of one's own lent. -/
namespace DL
open PySem PySem.Spec PyProof.Rows L2
section
variable {X : Xb} {K : PySem.W.Frag} {f : Addr} {fd : FuncData} {ps : List Str} {k : Nat} {x : Str} {e : Expr} {es : List Expr} {t : TA} {w : WA} {p pos : Pos}
def dCallPF (i : Nat) (s : SpecP) (w : WA) : WF := fun γ Q => (∃ m pl, γ[i]? = some (.own m pl)) ∧ w γ fun ds γ1 => ∃ m pl, γ1[i]? = some (.own m pl) ∧ s.S pl ds fun r pl' => ∃ es, r = .f es ∧ Q es (γ1.set i (.own m pl'))
theorem sf_callP {i : Nat} {s : SpecP} {t : TA} {w : WA} (h : SA X t w) : SF X (tCall (spP X.K s) [] E0 (tCons (tVar i) t)) (dCallPF i s w) := by
  refine ⟨fun γ P P' k q => ⟨q.1, h.mono γ _ _ (fun ds γ1 ⟨m, pl, e, q⟩ => ⟨m, pl, e, s.mono _ _ _ _ (fun r pl' ⟨es, e, q⟩ => ⟨es, e, k _ _ q⟩) q⟩) q.2⟩, fun B S H σ γ Q R q => ?_⟩
  obtain ⟨⟨m0, pl0, g0⟩, q⟩ := q
  obtain ⟨p0, xs0, f0, _⟩ := R.sl i _ g0
  refine ⟨_, f0, ?_⟩
  refine h.run B S H σ γ _ R (h.mono γ _ _ (fun ds γ1 ⟨m, pl, g, q⟩ vs S1 H1 R1 e1 d1 => ?_) q)
  show spP X.K s ((.ref p0 :: vs) ++ []) H1 Q E0
  rw [List.append_nil]
  obtain ⟨p, xs, g1, g2, g3, g4, g5⟩ := R1.sl i _ g
  rw [f0] at g1
  cases g1
  have spS : Same (if m = true then B.SP else S1) S1 := by
    obtain ⟨φ, r⟩ := R1.r
    cases m with
    | true => exact r.spS.trans r.grow
    | false => exact Same.refl _
  refine ⟨S1, (if m = true then B.SP else S1), p0, xs, pl, vs, ds, rfl, R1.same, spS, g2, g3, own_old g4 g5, d1, s.mono _ _ _ _ (fun r pl' ⟨es, e, q⟩ v S' H' xs' C k1 k2 k3' rv => ?_) q⟩
  have k3 : DenL (if m = true then B.SP else S') xs' pl' := by
    cases m with
    | true => exact k3'
    | false => exact DenL.mono k3' C.grow
  subst e
  obtain ⟨a, ys, rfl, l1, l2, l3, l4⟩ := rv
  have l2' : H1 a = none := l2
  exact q a ys S' H' (R1.callPN g f0 C k1 k2 k3 l2' l3 l1) (e1.trans C.grow) l4
theorem df_callP (K' : PySem.W.Frag) (i : Nat) {s : SpecP} {y : Str} {py : Pos} (F : FnOk X.prog X.w X.K X.mg X.base CX0 k f fd ps (spP K' s)) (hr : Room k X.A) (hm : X.mg x = some (.ref f)) (hk : PySem.W.keepIn X.K (.ref f) = true) (hb : Binds X.K fd ps []) (ha : DA X es t w) (hN : X.N[i]? = some y := by rfl) (hv : Vis X.env.scope y := by first | exact Or.inl rfl | exact Or.inr (Or.inl rfl) | exact Or.inr (Or.inr rfl)) (hd : (y == ("__debug__" : Str)) = false := by decide)
    (hcd : (y == ("__classdict__" : Str)) = false := by decide) (hg : Gl X x := by rfl)
    (hdb : (x == ("__debug__" : Str)) = false := by decide) (he : starEach (.Name y py :: es) X.env = (false, eval (.Name y py) X.env) :: starEach es X.env := by rfl) (hpl : (backTo pos (starEach es X.env)).any (·.1) = false := by rfl) (hK : X.K = K' := by rfl) : DF X (.Call (.Name x p) (.Name y py :: es) [] pos) (tCall (spP K' s) [] E0 (tCons (tVar i) t)) (dCallPF i s w) := by
  subst hK
  exact ⟨pe_call F hr hg hm hk hb .nil pass0 (pa_cons (pe_var hN hv hd hcd) ha.pa he) hdb he hpl, sf_callP ha.sa⟩
/-- the slots while the list in slot j is lent and slot i's list is drawn from -/
def lentP (i j : Nat) (ds pl : List D) (γ : List Sl) : List Sl := (lent j ds γ).set i (.own true pl)
def dCallPL (i j : Nat) (s : SpecP) (w : WA) : WF := fun γ Q => ∃ m ds mp pl, i ≠ j ∧ γ[j]? = some (.own m ds) ∧ γ[i]? = some (.own mp pl) ∧ w (lentP i j ds pl γ) fun as γ1 => γ1 = lentP i j ds pl γ ∧ s.S pl as fun r pl' => ∃ es, r = .f es ∧ flats es ∧ Q es (γ.set i (.own mp pl'))
end
section
variable {γ : List Sl} {i j : Nat} {ds pl : List D} {mm mp : Bool} {s : SpecP} {w : WA} {QF : List D → List Sl → Prop}
theorem i_callPF (g : γ[i]? = some (.own mm pl)) (q : w γ fun ds γ1 => ∃ m pl, γ1[i]? = some (.own m pl) ∧ s.S pl ds fun r pl' => ∃ es, r = .f es ∧ QF es (γ1.set i (.own m pl'))) : dCallPF i s w γ QF := ⟨⟨_, _, g⟩, q⟩
theorem i_same {P : Prop} (q : P) : γ = γ ∧ P := ⟨rfl, q⟩
instance {P : Prop} : Go (γ = γ ∧ P) (P) := ⟨fun z => i_same z⟩
end
/-- a slot is forgotten ahead of what follows -/
def dAny (i : Nat) (w : WS) : WS := fun Dd γ => w Dd (γ.set i .any)
theorem dss_any {X : Xb} (i : Nat) {sts : List Stmt} {t : TS} {w : WS} (h : DSs X sts t w) : DSs X sts t (dAny i w) := ⟨h.ps, ⟨fun B S0 S H σ γ Dd D R e L q => h.ss.run B S0 S H σ _ Dd D R.drop e L q⟩⟩
theorem i_any1 {i : Nat} {γ : List Sl} {w : WS} {Dd : EndsD} (q : w Dd (γ.set i .any)) : dAny i w Dd γ := q
instance {i : Nat} {γ : List Sl} {w : WS} {Dd : EndsD} : Go (dAny i w Dd γ) (w Dd (γ.set i .any)) := ⟨fun z => i_any1 z⟩
end DL
set_option Elab.async false
set_option linter.all false
set_option autoImplicit false
set_option maxRecDepth 100000
set_option maxHeartbeats 4000000
/-! DL17: small helps. -/
namespace DL
open PySem PySem.Spec PyProof.Rows L2
theorem ixN_n {n j : Nat} (hj : j < n) : ixN n (j : Int) = some j := by
  unfold ixN
  rw [if_pos (by omega), if_pos (by omega), Int.toNat_natCast]
theorem nite_f (a b : Bool) : (if false = true then a else b) = b := rfl
theorem nite_t (a b : Bool) : (if true = true then a else b) = a := rfl
end DL
set_option Elab.async false
set_option linter.all false
set_option autoImplicit false
set_option maxRecDepth 100000
set_option maxHeartbeats 4000000
/-! DL18: the head's facts with own classes: any Bool over the heap's part. -/
namespace DL
open PySem PySem.Spec PyProof.Rows L2 He
section
variable {fa : List Fa} {fn : List DefD} {xs : List (PySem.W.Frag → Bool)} {K : PySem.W.Frag}
theorem SaysE.d (c : SaysE fa fn xs K) : SaysD fa fn K := by
  have h1 : ((obsD fa fn K).1 && xs.all fun e => e K) = true := congrArg (fun z : AlD => z.1) c
  have h2 : (obsD fa fn K).2 = fn.map DefD.val := congrArg (fun z : AlD => z.2) c
  have h3 := (ba h1).1
  show obsD fa fn K = valD fn
  exact Prod.ext h3 h2
theorem SaysE.ex (c : SaysE fa fn xs K) (i : Nat) {e : PySem.W.Frag → Bool} (h : xs[i]? = some e := by rfl) : e K = true := by
  have h1 : ((obsD fa fn K).1 && xs.all fun e => e K) = true := congrArg (fun z : AlD => z.1) c
  exact List.all_eq_true.mp (ba h1).2 e (List.mem_of_getElem? h)
end
def Tc.of {K : PySem.W.Frag} {h : Heap} {mg : Str → Option Value} {x : Str} {fields : List Str} (X : K.In h) (G : h.Ns mainGlobals mg) (hg : (Fa.glo x).ok K = true) (hc : clsB x K = true) (hn : noatB x fields K = true) : Tc K mg x fields :=
  have c1 := ba hc
  have c2 := ba c1.2
  have c3 := ba c2.2
  have c4 := ba c3.2
  have c5 := ba c4.2
  have c6 := ba c5.2
  have c7 := ba c6.2
  have c8 := ba c7.2
  have c9 := ba c8.2
  have c10 := ba c9.2
  { C := ga K x
    own := ⟨cls_ok c1.1, eqO_ok c2.1, eqO_ok c3.1, of_decide_eq_true c4.1, of_decide_eq_true c5.1, fun T hT => of_decide_eq_true (List.all_eq_true.mp c6.1 T hT), of_decide_eq_true c7.1, fun T hT => of_decide_eq_true (List.all_eq_true.mp c8.1 T hT)⟩
    g := glo_ok X G hg
    first := c9.1
    no := fun f hf => eqO_ok (List.all_eq_true.mp hn f hf)
    makes := c10.1
    kp := c10.2 }
end DL
set_option Elab.async false
set_option linter.all false
set_option autoImplicit false
set_option maxRecDepth 100000
set_option maxHeartbeats 4000000
/-! DL19: == and != of data of any depth. -/
namespace DL
open PySem PySem.Spec PyProof.Rows L2
mutual
def toP : D → PyData
  | .non => .none | .bl b => .bool b | .int i => .int i | .str s => .str s | .lst ds => .list (toPs ds) | .tup ds => .tuple (toPs ds) | .obj _ _ => .none | .emp => .none | .ref _ => .none
def toPs : List D → List PyData
  | [] => []
  | d :: ds => toP d :: toPs ds
end
mutual
/-- no instances, no dicts -/
def noObj : D → Bool
  | .obj _ _ => false | .emp => false | .ref _ => false | .lst ds => noObjs ds | .tup ds => noObjs ds | _ => true
def noObjs : List D → Bool
  | [] => true
  | d :: ds => noObj d && noObjs ds
end
mutual
/-- no instances, no dicts, no bools -/
def clean : D → Bool
  | .obj _ _ => false | .emp => false | .ref _ => false | .bl _ => false | .lst ds => cleans ds | .tup ds => cleans ds | _ => true
def cleans : List D → Bool
  | [] => true
  | d :: ds => clean d && cleans ds
end
section
variable {K : PySem.W.Frag} {S H : Hp}
mutual
theorem Den.dp (e : Same S H) : ∀ (d : D) (v : V), Den S v d → noObj d = true → Dp K H v (toP d)
  | .non, _, h, _ => by cases h; exact .non
  | .bl b, _, h, _ => by cases h; exact .bl b
  | .int i, _, h, _ => by cases h; exact .int i
  | .str s, _, h, _ => by cases h; exact .str s
  | .lst ds, _, h, n => by
    obtain ⟨a, xs, rfl, h1, h2⟩ := h.lst_inv
    exact .lst (SqL.of (e _ _ h1)) (DenL.dp e ds xs h2 n)
  | .tup ds, _, h, n => by
    obtain ⟨a, xs, rfl, h1, h2⟩ := h.tup_inv
    exact .tup (SqT.of (e _ _ h1)) (DenL.dp e ds xs h2 n)
  | .obj _ _, _, _, n => by cases n
  | .emp, _, _, n => by cases n
  | .ref _, _, _, n => by cases n
theorem DenL.dp (e : Same S H) : ∀ (ds : List D) (xs : List V), DenL S xs ds → noObjs ds = true → DpAll K H xs (toPs ds)
  | [], xs, h, _ => by rw [h.nil_inv]; exact .nil
  | d :: ds, xs, h, n => by
    have n : (noObj d && noObjs ds) = true := n
    rw [Bool.and_eq_true] at n
    obtain ⟨x, r, rfl, h1, h2⟩ := h.cons_inv
    exact .cons (Den.dp e d x h1 n.1) (DenL.dp e ds r h2 n.2)
end
end
/-- data that == takes -/
structure PlD (d : D) : Prop where
  no : noObj d = true
  sh : SeqAt.shaped (toP d) = true
def eqD (x y : D) : Bool := PyData.eqv (toP x) (toP y)
def fEqD (neg : Bool) (x y : D) (Q : D → Prop) : Prop := PlD x ∧ PlD y ∧ Q (.bl (if neg then !eqD x y else eqD x y))
theorem ops_eqD {X : Xb} : OpSK X (rEqD X.K) (fEqD false) := by
  refine ⟨fun x y P P' k ⟨h1, h2, q⟩ => ⟨h1, h2, k _ q⟩, fun B S H σ γ Q v u x y R d1 d2 ⟨h1, h2, q⟩ => ?_⟩
  exact ⟨toP x, toP y, Den.dp R.same x v d1 h1.no, Den.dp R.same y u d2 h2.no, h1.sh, h2.sh, q _ S H R (Same.refl S) (.bl _)⟩
section
variable {X : Xb} {a b : Expr} {ta tb : TE} {wa wb : WE} {pos : Pos} {k : Nat}
theorem de_eqD (K' : PySem.W.Frag) (hr : Room k X.A) (ha : DE X a ta wa) (hb : DE X b tb wb) (hK : X.K = K' := by rfl) : DE X (.Compare a [.Eq] [b] pos) (tOp (rEqD K') ta tb) (dOp (fEqD false) wa wb) := by
  subst hK
  exact ⟨pe_cmpR (op_eqD (by have h := hr.un; dsimp only [Xb.A] at h ⊢; omega)) ha.pe hb.pe (nomark _), se_opK ops_eqD ha.se hb.se⟩
end
/-! ### what == says -/
mutual
theorem eqv_iff : ∀ (d e : D), clean d = true → clean e = true → (PyData.eqv (toP d) (toP e) = true ↔ d = e)
  | .non, e, _, h => by cases e <;> first | (cases h; done) | (simp [toP, PyData.eqv]; done)
  | .int i, e, _, h => by cases e <;> first | (cases h; done) | (simp [toP, PyData.eqv]; done)
  | .str i, e, _, h => by cases e <;> first | (cases h; done) | (simp [toP, PyData.eqv]; done)
  | .lst ds, e, k, h => by
    cases e with
    | lst es => simp only [toP, PyData.eqv, D.lst.injEq]; exact eqvs_iff ds es k h
    | _ => first | (cases h; done) | (simp [toP, PyData.eqv]; done)
  | .tup ds, e, k, h => by
    cases e with
    | tup es => simp only [toP, PyData.eqv, D.tup.injEq]; exact eqvs_iff ds es k h
    | _ => first | (cases h; done) | (simp [toP, PyData.eqv]; done)
  | .bl _, _, k, _ => by cases k
  | .obj _ _, _, k, _ => by cases k
  | .emp, _, k, _ => by cases k
  | .ref _, _, k, _ => by cases k
theorem eqvs_iff : ∀ (ds es : List D), cleans ds = true → cleans es = true → (PyData.eqvAll (toPs ds) (toPs es) = true ↔ ds = es)
  | [], [], _, _ => by simp [toPs, PyData.eqvAll]
  | [], _ :: _, _, _ => by simp [toPs, PyData.eqvAll]
  | _ :: _, [], _, _ => by simp [toPs, PyData.eqvAll]
  | d :: ds, e :: es, k, h => by
    have k : (clean d && cleans ds) = true := k
    have h : (clean e && cleans es) = true := h
    rw [Bool.and_eq_true] at k h
    simp only [toPs, PyData.eqvAll, Bool.and_eq_true, List.cons.injEq]
    rw [eqv_iff d e k.1 h.1, eqvs_iff ds es k.2 h.2]
end
theorem eqD_iff {d e : D} (h : clean d = true) (k : clean e = true) : eqD d e = true ↔ d = e := eqv_iff d e h k
theorem eqD_dec {d e : D} (h : clean d = true) (k : clean e = true) {p : Prop} [Decidable p] (i : d = e ↔ p) : eqD d e = decide p := by
  by_cases q : p
  · rw [decide_eq_true q]; exact (eqD_iff h k).mpr (i.mpr q)
  · rw [decide_eq_false q]
    cases z : eqD d e with
    | false => rfl
    | true => exact absurd (i.mp ((eqD_iff h k).mp z)) q
/-! ### lists of ints, of rows -/
theorem cleans_of {ds : List D} (h : ∀ d ∈ ds, clean d = true) : cleans ds = true := by
  induction ds with
  | nil => rfl
  | cons d ds ih => show (clean d && cleans ds) = true; rw [h d (List.mem_cons_self ..), ih fun e he => h e (List.mem_cons_of_mem _ he)]; rfl
theorem noObjs_of {ds : List D} (h : ∀ d ∈ ds, noObj d = true) : noObjs ds = true := by
  induction ds with
  | nil => rfl
  | cons d ds ih => show (noObj d && noObjs ds) = true; rw [h d (List.mem_cons_self ..), ih fun e he => h e (List.mem_cons_of_mem _ he)]; rfl
theorem lay_of : ∀ {ds : List D}, (∀ d ∈ ds, (toP d).canLay0 = true) → PyData.canLayAll0 (toPs ds) = true
  | [], _ => by simp [toPs, PyData.canLayAll0]
  | d :: ds, h => by simp only [toPs, PyData.canLayAll0, Bool.and_eq_true]; exact ⟨h d (List.mem_cons_self ..), lay_of fun e he => h e (List.mem_cons_of_mem _ he)⟩
theorem depth_of {n : Nat} : ∀ {ds : List D}, (∀ d ∈ ds, (toP d).depth ≤ n) → PyData.depthAll (toPs ds) ≤ n
  | [], _ => by simp [toPs, PyData.depthAll]
  | d :: ds, h => by
    simp only [toPs, PyData.depthAll]
    exact Nat.max_le.mpr ⟨h d (List.mem_cons_self ..), depth_of fun e he => h e (List.mem_cons_of_mem _ he)⟩
/-- data of depth n that == takes -/
structure PlN (n : Nat) (d : D) : Prop where
  no : noObj d = true
  lay : (toP d).canLay0 = true
  dep : (toP d).depth ≤ n
theorem PlN.pl {n : Nat} {d : D} (h : PlN n d) (hn : n ≤ 64) : PlD d := ⟨h.no, by unfold SeqAt.shaped; rw [h.lay, decide_eq_true (Nat.le_trans h.dep hn)]; rfl⟩
theorem PlN.le {m n : Nat} {d : D} (h : PlN m d) (k : m ≤ n) : PlN n d := ⟨h.no, h.lay, Nat.le_trans h.dep k⟩
theorem pl_int {n : Nat} (i : Int) : PlN n (.int i) := ⟨rfl, by simp [toP, PyData.canLay0], by simp [toP, PyData.depth]⟩
theorem pl_str {n : Nat} {s : Str} (h : (toP (.str s)).canLay0 = true) : PlN n (.str s) := ⟨rfl, h, by simp [toP, PyData.depth]⟩
theorem pl_lst {n : Nat} {ds : List D} (h : ∀ d ∈ ds, PlN n d) : PlN (n + 1) (.lst ds) :=
  ⟨noObjs_of fun d hd => (h d hd).no, by simp only [toP, PyData.canLay0]; exact lay_of fun d hd => (h d hd).lay, by simp only [toP, PyData.depth]; have := depth_of fun d hd => (h d hd).dep; omega⟩
theorem pl_tup {n : Nat} {ds : List D} (h : ∀ d ∈ ds, PlN n d) : PlN (n + 1) (.tup ds) :=
  ⟨noObjs_of fun d hd => (h d hd).no, by simp only [toP, PyData.canLay0]; exact lay_of fun d hd => (h d hd).lay, by simp only [toP, PyData.depth]; have := depth_of fun d hd => (h d hd).dep; omega⟩
theorem pl_ints {n : Nat} (ns : List Int) : PlN (n + 1) (.lst (intL ns)) := pl_lst fun d hd => by
  obtain ⟨i, _, rfl⟩ := List.mem_map.mp hd
  exact pl_int i
theorem pl_rows {n : Nat} (B : List (List Int)) : PlN (n + 2) (.lst (rowsD B)) := pl_lst fun d hd => by
  obtain ⟨r, _, rfl⟩ := List.mem_map.mp hd
  exact pl_ints r
theorem clean_ints (ns : List Int) : clean (.lst (intL ns)) = true := cleans_of fun d hd => by
  obtain ⟨i, _, rfl⟩ := List.mem_map.mp hd
  rfl
theorem clean_rows (B : List (List Int)) : clean (.lst (rowsD B)) = true := cleans_of fun d hd => by
  obtain ⟨r, _, rfl⟩ := List.mem_map.mp hd
  exact clean_ints r
theorem intL_inj : ∀ {a b : List Int}, intL a = intL b → a = b
  | [], [], _ => rfl
  | [], _ :: _, h => by cases h
  | _ :: _, [], h => by cases h
  | x :: a, y :: b, h => by
    obtain ⟨h1, h2⟩ := List.cons.inj h
    rw [D.int.inj h1, intL_inj h2]
theorem rowsD_inj : ∀ {A B : List (List Int)}, rowsD A = rowsD B → A = B
  | [], [], _ => rfl
  | [], _ :: _, h => by cases h
  | _ :: _, [], h => by cases h
  | x :: a, y :: b, h => by
    obtain ⟨h1, h2⟩ := List.cons.inj h
    rw [intL_inj (D.lst.inj h1), rowsD_inj h2]
theorem eqD_ints (a b : List Int) : eqD (.lst (intL a)) (.lst (intL b)) = decide (a = b) := eqD_dec (clean_ints a) (clean_ints b) ⟨fun h => intL_inj (D.lst.inj h), fun h => by rw [h]⟩
theorem eqD_rows (A B : List (List Int)) : eqD (.lst (rowsD A)) (.lst (rowsD B)) = decide (A = B) := eqD_dec (clean_rows A) (clean_rows B) ⟨fun h => rowsD_inj (D.lst.inj h), fun h => by rw [h]⟩
section
variable {R : D → Prop}
theorem i_eqDI {a b : List Int} (q : R (.bl (decide (a = b)))) : fEqD false (.lst (intL a)) (.lst (intL b)) R := ⟨(pl_ints (n := 1) a).pl (by decide), (pl_ints (n := 1) b).pl (by decide), by rw [eqD_ints]; exact q⟩
instance {a b : List Int} : Go (fEqD false (.lst (intL a)) (.lst (intL b)) R) (R (.bl (decide (a = b)))) := ⟨fun z => i_eqDI z⟩
theorem i_neDI {a b : List Int} (q : R (.bl (!decide (a = b)))) : fEqD true (.lst (intL a)) (.lst (intL b)) R := ⟨(pl_ints (n := 1) a).pl (by decide), (pl_ints (n := 1) b).pl (by decide), by rw [eqD_ints]; exact q⟩
instance {a b : List Int} : Go (fEqD true (.lst (intL a)) (.lst (intL b)) R) (R (.bl (!decide (a = b)))) := ⟨fun z => i_neDI z⟩
theorem i_eqDR {A B : List (List Int)} (q : R (.bl (decide (A = B)))) : fEqD false (.lst (rowsD A)) (.lst (rowsD B)) R := ⟨(pl_rows (n := 1) A).pl (by decide), (pl_rows (n := 1) B).pl (by decide), by rw [eqD_rows]; exact q⟩
instance {A B : List (List Int)} : Go (fEqD false (.lst (rowsD A)) (.lst (rowsD B)) R) (R (.bl (decide (A = B)))) := ⟨fun z => i_eqDR z⟩
theorem i_neDR {A B : List (List Int)} (q : R (.bl (!decide (A = B)))) : fEqD true (.lst (rowsD A)) (.lst (rowsD B)) R := ⟨(pl_rows (n := 1) A).pl (by decide), (pl_rows (n := 1) B).pl (by decide), by rw [eqD_rows]; exact q⟩
instance {A B : List (List Int)} : Go (fEqD true (.lst (rowsD A)) (.lst (rowsD B)) R) (R (.bl (!decide (A = B)))) := ⟨fun z => i_neDR z⟩
end
/-- a Bool that tells p -/
noncomputable def dP (p : Prop) : Bool := @decide p (Classical.propDecidable p)
theorem isO_self {C : Addr} {fs : List (Str × D)} : isO C (.obj C fs) = true := beq_self_eq_true C
end DL
set_option Elab.async false
set_option linter.all false
set_option autoImplicit false
set_option maxRecDepth 100000
set_option maxHeartbeats 4000000
/-! DL20: comprehensions of two clauses. -/
namespace DL
open PySem PySem.Spec PyProof.Rows L2

def dLc2 (wi : WA) (wg : WG) (wt : WT) (wi1 : WA) (wg1 : WG) (wt1 : WT) (we : WE) (vs vs1 : List Nat) : WF := fun γ Q => wi γ fun ds γ1 => (∀ v ∈ vs, ∀ s, γ1[v]? = some s → s = .any) ∧ ∃ I : Nat → List D → List Sl → Prop, I 0 [] γ1 ∧
  (∀ i acc γ d, ds[i]? = some d → I i acc γ → (∀ v ∈ vs, ∀ s, γ[v]? = some s → s = .any) ∧ wg d γ fun γ2 => wt γ2 fun b γ3 => if b = true then
    wi1 γ3 fun ds1 γ4 => (∀ v ∈ vs1, ∀ s, γ4[v]? = some s → s = .any) ∧ ∃ I1 : Nat → List D → List Sl → Prop, I1 0 acc γ4 ∧
      (∀ j acc γ d, ds1[j]? = some d → I1 j acc γ → (∀ v ∈ vs1, ∀ s, γ[v]? = some s → s = .any) ∧ wg1 d γ fun γ5 => wt1 γ5 fun b γ6 => if b = true then we γ6 fun y γ7 => acc.length < sizeLine ∧ I1 (j + 1) (acc ++ [y]) (wipeG γ7 vs1) else I1 (j + 1) acc (wipeG γ6 vs1)) ∧
      ∀ acc γ, I1 ds1.length acc γ → (∀ v ∈ vs1, ∀ s, γ[v]? = some s → s = .any) ∧ I (i + 1) acc (wipeG γ vs)
    else I (i + 1) acc (wipeG γ3 vs)) ∧
  ∀ acc γ, I ds.length acc γ → (∀ v ∈ vs, ∀ s, γ[v]? = some s → s = .any) ∧ Q acc γ
section
variable {X : Xb} {K : PySem.W.Frag}
end
/-- all the items of an inner list, turn by turn -/
def dLs2 (n m : Nat) (g : Nat → Nat → D) : List D := (List.range n).flatMap fun i => dLs m (g i)
def Lc2G (items : List D) (γ : List Sl) (wg : WG) (wt : WT) (wi1 : WA) (wg1 : WG) (wt1 : WT) (we : WE) (vs vs1 : List Nat) (QF : List D → List Sl → Prop) : Prop := dLc2 (fun γ Q => Q items γ) wg wt wi1 wg1 wt1 we vs vs1 γ QF
section
variable {γ : List Sl} {we : WE} {QF : List D → List Sl → Prop} {wg wg1 : WG} {wt wt1 : WT} {wi1 : WA} {vs vs1 : List Nat}
theorem i_lc2 {wi : WA} (q : wi γ fun ds γ1 => Lc2G ds γ1 wg wt wi1 wg1 wt1 we vs vs1 QF) : dLc2 wi wg wt wi1 wg1 wt1 we vs vs1 γ QF := q
instance {wi : WA} : Go (dLc2 wi wg wt wi1 wg1 wt1 we vs vs1 γ QF) (wi γ fun ds γ1 => Lc2G ds γ1 wg wt wi1 wg1 wt1 we vs vs1 QF) := ⟨fun z => i_lc2 z⟩
end
end DL
set_option Elab.async false
set_option linter.all false
set_option autoImplicit false
set_option maxRecDepth 100000
set_option maxHeartbeats 4000000
/-! DL21: match statements of texts: cases of words, of words joined by |, and the rest. -/
namespace DL
open PySem PySem.Spec PyProof.Rows L2

/-- a pattern of words -/
structure PPat (X : Xb) (p : Pattern) (ls : List Str) : Prop where
  run : ∀ (pins : List (Addr × Obj)) (s : Shared) (σ : L2.St) (H : Hp) (z : Str) (u : Value), Inv X pins σ H s → RelV (.str z) u →
    wpAny (model X.prog X.w) X.A (matchPattern p X.env u) (fun r s' => Inv X pins σ H s' ∧ r = if z ∈ ls then some [] else none) X.xe s
structure PPats (X : Xb) (ps : List Pattern) (ls : List Str) : Prop where
  run : ∀ (pins : List (Addr × Obj)) (s : Shared) (σ : L2.St) (H : Hp) (z : Str) (u : Value), Inv X pins σ H s → RelV (.str z) u →
    wpAny (model X.prog X.w) X.A (matchFirst ps X.env u) (fun r s' => Inv X pins σ H s' ∧ r = if z ∈ ls then some [] else none) X.xe s
abbrev TMs := V → TS
structure PM (X : Xb) (cs : List MatchCase) (t : TMs) : Prop where
  run : ∀ (first : Bool) (pins : List (Addr × Obj)) (s : Shared) (σ : L2.St) (H : Hp) (D : Ends) (v : V) (u : Value), Inv X pins σ H s → RelV v u → t v D σ H → wpAny (model X.prog X.w) X.A (matchCases cs X.env u first) (SP X pins D) X.xe s
def tMnil : TMs := fun _ D σ H => D.nx σ H
def tMany (tb : TS) : TMs := fun _ D σ H => tb D σ H
def tMstr (ls : List Str) (tb : TS) (tr : TMs) : TMs := fun v D σ H => ∃ z, v = .str z ∧ if z ∈ ls then tb D σ H else tr v D σ H
def tMatch (te : TE) (tm : TMs) : TS := fun D σ H => te σ H fun v H1 => tm v D σ H1
section
variable {X : Xb} {pos p1 : Pos} {e : Expr} {te : TE} {tb : TS} {tm : TMs} {body : List Stmt} {rest : List MatchCase} {pat : Pattern} {ls : List Str} {pats : List Pattern}
theorem pp_str {x : Str} {j} : PPat X (.MatchValue (.Constant (.str x) j p1) pos) [x] := ⟨fun pins s σ H z u I r => by
  refine wpAny_matchPattern_Value (thn ((pe_str (X := X) (x := x) (j := j) (pos := p1)).run pins s σ H (fun v H' => v = .str x ∧ H' = H) I ⟨rfl, rfl⟩) fun u2 s2 h2 => ?_)
  obtain ⟨v2, H2, I2, r2, e1, e2⟩ := h2
  subst e1 e2
  refine thn (op_eq pins s2 σ H2 (.str z) (.str x) u u2 (fun v H' => v = .bl (decide (z = x)) ∧ H' = H2) I2 r r2 ⟨rfl, ?_⟩) fun c s3 h3 => ?_
  · have e : decide (V.str z = V.str x) = decide (z = x) := decide_eq_decide.mpr ⟨fun h => (by cases h; rfl), fun h => by rw [h]⟩
    exact ⟨by rw [e], rfl⟩
  obtain ⟨v3, H3, I3, r3, e1, e2⟩ := h3
  subst e1 e2
  cases r3
  refine wpAny_truthy_bool ?_
  by_cases h : z = x
  · subst h
    rw [decide_eq_true rfl]
    exact ⟨I3, by simp⟩
  · rw [decide_eq_false h]
    exact ⟨I3, by simp [h]⟩⟩
theorem pps_nil : PPats X [] [] := ⟨fun pins s σ H z u I r => wpAny_matchFirst_nil ⟨I, by simp⟩⟩
theorem pps_cons {ls' : List Str} (h : PPat X pat ls) (h' : PPats X pats ls') : PPats X (pat :: pats) (ls ++ ls') := ⟨fun pins s σ H z u I r => by
  refine wpAny_matchFirst_cons (thn (h.run pins s σ H z u I r) fun q s2 ⟨I2, e⟩ => ?_)
  subst e
  by_cases hz : z ∈ ls
  · rw [if_pos hz]
    exact ⟨I2, by rw [if_pos (List.mem_append_left _ hz)]⟩
  · rw [if_neg hz]
    refine thn (h'.run pins s2 σ H z u I2 r) fun q s3 ⟨I3, e⟩ => ⟨I3, ?_⟩
    rw [e]
    simp [hz]⟩
theorem pp_or (h : PPats X pats ls) (hn : namesOfAll (pats.take 1) = [] := by rfl) : PPat X (.MatchOr pats pos) ls := ⟨fun pins s σ H z u I r => by
  refine wpAny_matchPattern_Or (thn (h.run pins s σ H z u I r) fun q s2 ⟨I2, e⟩ => ?_)
  subst e
  by_cases hz : z ∈ ls
  · rw [if_pos hz]
    exact ⟨I2, by rw [hn]; rfl⟩
  · rw [if_neg hz]
    exact ⟨I2, rfl⟩⟩
theorem pm_any (h : PSs X body tb) : PM X (⟨.MatchAs none none pos, none, body⟩ :: rest) (tMany tb) := ⟨fun first pins s σ H D v u I r q => by
  refine wpAny_matchCases_cons (wpAny_matchPattern_Capture ?_)
  exact wpAny_assignInOrder_none (h.run pins s σ H D I q)⟩
theorem pm_str (hp : PPat X pat ls) (h : PSs X body tb) (h' : PM X rest tm) : PM X (⟨pat, none, body⟩ :: rest) (tMstr ls tb tm) := ⟨fun first pins s σ H D v u I r ⟨z, e, q⟩ => by
  subst e
  refine wpAny_matchCases_cons (thn (hp.run pins s σ H z u I r) fun w s2 ⟨I2, e⟩ => ?_)
  subst e
  by_cases hz : z ∈ ls
  · rw [if_pos hz] at q ⊢
    exact wpAny_assignInOrder_none (h.run pins s2 σ H D I2 q)
  · rw [if_neg hz] at q ⊢
    exact h'.run false pins s2 σ H D (.str z) u I2 r q⟩
theorem ps_match {cases : List MatchCase} (h : PE X e te) (hm : PM X cases tm) : PS X (.Match e cases pos) (tMatch te tm) := ⟨fun pins s σ H D I q => by
  refine wpAny_Match (thn (h.run pins s σ H _ I q) fun u s2 ⟨v, H2, I2, r2, q2⟩ => ?_)
  exact hm.run true pins s2 σ H2 D v u I2 r2 q2⟩
end

/-! ### over data -/
abbrev WM := D → WS
structure SM (X : Xb) (t : TMs) (w : WM) : Prop where
  run : ∀ B S0 S H σ γ Dd D v d, Rel X B S H σ γ → Same S0 S → Link X B S0 Dd D → Den S v d → w d Dd γ → t v D σ H
structure DM (X : Xb) (cs : List MatchCase) (t : TMs) (w : WM) : Prop where
  pm : PM X cs t
  sm : SM X t w
def dMnil : WM := fun _ Dd γ => Dd.nx γ
def dMany (wb : WS) : WM := fun _ Dd γ => wb Dd γ
def dMstr (ls : List Str) (wb : WS) (wr : WM) : WM := fun d Dd γ => ∃ z, d = .str z ∧ if z ∈ ls then wb Dd γ else wr d Dd γ
def dMatch (we : WE) (wm : WM) : WS := fun Dd γ => we γ fun d γ1 => wm d Dd γ1
section
variable {X : Xb} {pos p1 : Pos} {e : Expr} {te : TE} {we : WE} {tb : TS} {wb : WS} {tm : TMs} {wm : WM} {body : List Stmt} {rest : List MatchCase} {pat : Pattern} {ls : List Str}
theorem dm_any (h : DSs X body tb wb) : DM X (⟨.MatchAs none none pos, none, body⟩ :: rest) (tMany tb) (dMany wb) := ⟨pm_any h.ps, ⟨fun B S0 S H σ γ Dd D v d R e L _ q => h.ss.run B S0 S H σ γ Dd D R e L q⟩⟩
theorem dm_str (hp : PPat X pat ls) (h : DSs X body tb wb) (h' : DM X rest tm wm) : DM X (⟨pat, none, body⟩ :: rest) (tMstr ls tb tm) (dMstr ls wb wm) := ⟨pm_str hp h.ps h'.pm, ⟨fun B S0 S H σ γ Dd D v d R e L hd ⟨z, ez, q⟩ => by
  subst ez
  cases hd
  refine ⟨z, rfl, ?_⟩
  by_cases hz : z ∈ ls
  · rw [if_pos hz] at q ⊢
    exact h.ss.run B S0 S H σ γ Dd D R e L q
  · rw [if_neg hz] at q ⊢
    exact h'.sm.run B S0 S H σ γ Dd D _ _ R e L (.str z) q⟩⟩
theorem ds_match {cases : List MatchCase} (h : DE X e te we) (hm : DM X cases tm wm) : DS X (.Match e cases pos) (tMatch te tm) (dMatch we wm) := ⟨ps_match h.pe hm.pm, ⟨fun B S0 S H σ γ Dd D R e L q =>
  h.se.run B S H σ γ _ R (h.se.mono γ _ _ (fun d γ1 q v S1 H1 R1 e1 d1 => hm.sm.run B S0 S1 H1 σ γ1 Dd D v d R1 (e.trans e1) L d1 q) q)⟩⟩
end
section
variable {γ : List Sl} {Dd : EndsD} {we : WE} {wm : WM} {wb : WS} {ls : List Str} {z : Str}
theorem i_match (q : we γ fun d γ1 => wm d Dd γ1) : dMatch we wm Dd γ := q
instance : Go (dMatch we wm Dd γ) (we γ fun d γ1 => wm d Dd γ1) := ⟨fun z => i_match z⟩
theorem i_mAny {d : D} (q : wb Dd γ) : dMany wb d Dd γ := q
instance {d : D} : Go (dMany wb d Dd γ) (wb Dd γ) := ⟨fun z => i_mAny z⟩
theorem i_mNil {d : D} (q : Dd.nx γ) : dMnil d Dd γ := q
instance {d : D} : Go (dMnil d Dd γ) (Dd.nx γ) := ⟨fun z => i_mNil z⟩
theorem i_mYes (h : z ∈ ls) (q : wb Dd γ) : dMstr ls wb wm (.str z) Dd γ := ⟨z, rfl, by rw [if_pos h]; exact q⟩
theorem i_mNo (h : z ∉ ls) (q : wm (.str z) Dd γ) : dMstr ls wb wm (.str z) Dd γ := ⟨z, rfl, by rw [if_neg h]; exact q⟩
end
end DL
set_option Elab.async false
set_option linter.all false
set_option autoImplicit false
set_option maxRecDepth 100000
set_option maxHeartbeats 4000000
/-! DL22: defs that change two lists of the caller: the pool and a flat one. -/
namespace DL
open PySem PySem.Spec PyProof.Rows L2

section
variable {K : PySem.W.Frag} {B : Bs} {S S' H H' SP : Hp} {σ : L2.St} {γ : List Sl} {p q : Addr} {o2 : HO}
/-- a call that changes two things, seen from a heap where the second has changed already -/
theorem Rel0.two (C : Rel0 K ⟨H, S, [p, q], [], SP⟩ S' H' [] []) (npq : p ≠ q) (k1 : S' q = none) (k2 : H' q = some o2) : Rel0 K ⟨upd H q o2, S, [p], [], SP⟩ S' H' [] [] := by
  obtain ⟨φ, r⟩ := C
  refine ⟨fun _ => emptyH, r.same, fun a o e hm => ?_, fun a ha => ?_, r.grow, fun a o e => ?_, rfl, fun i s e => (by simp at e), fun i a o e => (by cases e), fun i a o e => (by cases e), fun i j a o u _ e => (by cases e), fun i a o e => (by cases e), fun p o hp => (by cases hp), List.nodup_nil, r.spS⟩
  · have e : upd H q o2 a = some o := e
    by_cases ha : a = q
    · subst ha; rw [upd_same] at e; cases e; exact k2
    · rw [upd_ne ha] at e
      refine r.keep a o e fun z => ?_
      rcases List.mem_cons.mp z with z | z
      · exact hm (List.mem_singleton.mpr z)
      · exact ha (List.mem_singleton.mp z)
  · have : a = p := List.mem_singleton.mp ha
    subst this
    obtain ⟨f1, ⟨o, f2⟩, f3⟩ := r.muk a (List.mem_cons_self ..)
    exact ⟨f1, ⟨o, by show upd H q o2 a = some o; rw [upd_ne npq]; exact f2⟩, f3⟩
  · rcases r.ext a o e with z | z
    · exact .inl z
    · refine .inr ?_
      show upd H q o2 a = none
      by_cases ha : a = q
      · subst ha; rw [k1] at e; cases e
      · rw [upd_ne ha]; exact z
structure SpecPP where
  S : List D → List D → List D → (Rv → List D → List D → Prop) → Prop
  mono : ∀ pl wl ds P P', (∀ r pl wl, P r pl wl → P' r pl wl) → S pl wl ds P → S pl wl ds P'
def spPP (K : PySem.W.Frag) (s : SpecPP) : Sp := fun vs H Q _ => ∃ S SP p q xs ys pl wl vs' ds, vs = .ref p :: .ref q :: vs' ∧ p ≠ q ∧ Same S H ∧ Same SP S ∧ S p = none ∧ S q = none ∧ H p = some (.lst xs) ∧ H q = some (.lst ys) ∧ DenL SP xs pl ∧ DenL SP ys wl ∧ flats wl ∧ DenL S vs' ds ∧
  s.S pl wl ds fun r pl' wl' => ∀ v S' H' xs' ys', Rel0 K ⟨H, S, [p, q], [], SP⟩ S' H' [] [] → S' p = none → S' q = none → H' p = some (.lst xs') → H' q = some (.lst ys') → DenL SP xs' pl' → DenL SP ys' wl' → RvOk ⟨H, S, [p, q], [], SP⟩ S' H' v r → Q v H'
end
section
variable {X : Xb} {K : PySem.W.Frag} {f : Addr} {fd : FuncData} {ps : List Str} {k : Nat} {x : Str} {e : Expr} {es : List Expr} {t : TA} {w : WA} {p pos : Pos}
/-- a call that draws from the list in slot i and changes the flat one in slot j -/
def dCallPP (i j : Nat) (s : SpecPP) (w : WA) : WE := fun γ Q => i ≠ j ∧ (∃ m pl, γ[i]? = some (.own m pl)) ∧ (∃ m wl, γ[j]? = some (.own m wl)) ∧ w γ fun ds γ1 => ∃ m pl m2 wl, γ1[i]? = some (.own m pl) ∧ γ1[j]? = some (.own m2 wl) ∧ flats wl ∧ s.S pl wl ds fun r pl' wl' => flats wl' ∧ Q r.val ((γ1.set j (.own m2 wl')).set i (.own m pl'))
theorem se_callPP {i j : Nat} {s : SpecPP} {t : TA} {w : WA} (h : SA X t w) : SE X (tCall (spPP X.K s) [] E0 (tCons (tVar i) (tCons (tVar j) t))) (dCallPP i j s w) := by
  refine ⟨fun γ P P' k q => ⟨q.1, q.2.1, q.2.2.1, h.mono γ _ _ (fun ds γ1 ⟨m, pl, m2, wl, e, e2, fl, q⟩ => ⟨m, pl, m2, wl, e, e2, fl, s.mono _ _ _ _ _ (fun r pl' wl' q => ⟨q.1, k _ _ q.2⟩) q⟩) q.2.2.2⟩, fun B S H σ γ Q R q => ?_⟩
  obtain ⟨nij, ⟨m0, pl0, g0⟩, ⟨n0, wl0, l0⟩, q⟩ := q
  obtain ⟨p0, xs0, f0, _⟩ := R.sl i _ g0
  obtain ⟨q0, ys0, f0', _⟩ := R.sl j _ l0
  refine ⟨_, f0, _, f0', ?_⟩
  refine h.run B S H σ γ _ R (h.mono γ _ _ (fun ds γ1 ⟨m, pl, m2, wl, g, l, fl, q⟩ vs S1 H1 R1 e1 d1 => ?_) q)
  show spPP X.K s ((.ref p0 :: .ref q0 :: vs) ++ []) H1 Q E0
  rw [List.append_nil]
  obtain ⟨p, xs, g1, g2, g3, g4, g5⟩ := R1.sl i _ g
  rw [f0] at g1
  cases g1
  obtain ⟨q', ys, l1, l2, l3, l4, l5⟩ := R1.sl j _ l
  rw [f0'] at l1
  cases l1
  have npq : p0 ≠ q0 := by
    obtain ⟨φ, r⟩ := R1.r
    obtain ⟨p', _, a1, a2, _⟩ := r.sl i _ g
    obtain ⟨b', _, b1, b2, _⟩ := r.sl j _ l
    rw [f0] at a1; cases a1
    rw [f0'] at b1; cases b1
    intro z
    subst z
    exact r.phD i j _ _ _ nij a2 b2
  have spS : Same (if m = true then B.SP else S1) S1 := by
    obtain ⟨φ, r⟩ := R1.r
    cases m with
    | true => exact r.spS.trans r.grow
    | false => exact Same.refl _
  refine ⟨S1, (if m = true then B.SP else S1), p0, q0, xs, ys, pl, wl, vs, ds, rfl, npq, R1.same, spS, g2, l2, g3, l3, own_old g4 g5, l4.flat fl, fl, d1, s.mono _ _ _ _ _ (fun r pl' wl' ⟨fl', q⟩ v S' H' xs' ys' C k1 k1' k2 k2' k3' k3w rv => ?_) q⟩
  have C2 := C.two npq k1' k2'
  have k3 : DenL (if m = true then B.SP else S') xs' pl' := by
    cases m with
    | true => exact k3'
    | false => exact DenL.mono k3' C.grow
  have R1' : Rel X B S1 (upd H1 q0 (.lst ys')) σ (γ1.set j (.own m2 wl')) := by
    refine R1.with ?_ (Same.refl S1)
    obtain ⟨φ, r⟩ := R1.r
    obtain ⟨b', _, b1, b2, b3, b4⟩ := r.sl j _ l
    rw [f0'] at b1; cases b1
    exact r.chg1 l b2 ⟨_, ys', f0', upd_same, k3w.flat fl', b4⟩ rfl (fun _ _ h => h)
  have gi : (γ1.set j (.own m2 wl'))[i]? = some (.own m pl) := by rw [List.getElem?_set_ne (fun z => nij z.symm)]; exact g
  have R2 := R1'.callP gi f0 C2 k1 k2 k3
  have nq : ∀ {a o}, H1 a = none → upd H1 q0 o a = none := fun {a o} h => by rw [upd_ne (fun z => by subst z; rw [l3] at h; cases h)]; exact h
  cases r with
  | d d => exact q v S' H' R2 (e1.trans C.grow) rv
  | f ds' =>
    obtain ⟨a, ys2, rfl, l1, l2, l3', l4⟩ := rv
    have l2' : H1 a = none := l2
    have e6 : Same S' (upd S' a (.lst ys2)) := Same.upd (Same.refl S') l1
    exact q (.ref a) _ H' (R1'.callPN gi f0 C2 k1 k2 k3 (nq l2') l3' l1).frzF (e1.trans (C.grow.trans e6)) (.ofL upd_same (l4.mono e6))
  | o C' fs =>
    obtain ⟨a, dx, ys2, rfl, l1, l2, l3', l4⟩ := rv
    have l2' : H1 a = none := l2
    have e6 : Same S' (upd S' a (.ins C' dx ys2)) := Same.upd (Same.refl S') l1
    exact q (.ref a) _ H' (R1'.callPN gi f0 C2 k1 k2 k3 (nq l2') l3' l1).frzF (e1.trans (C.grow.trans e6)) (.ofO upd_same (l4.mono e6))
theorem de_callPP (K' : PySem.W.Frag) (i j : Nat) {s : SpecPP} {y z : Str} {py pz : Pos} (F : FnOk X.prog X.w X.K X.mg X.base CX0 k f fd ps (spPP K' s)) (hr : Room k X.A) (hm : X.mg x = some (.ref f)) (hk : PySem.W.keepIn X.K (.ref f) = true) (hb : Binds X.K fd ps []) (ha : DA X es t w) (hN : X.N[i]? = some y := by rfl) (hv : Vis X.env.scope y := by first | exact Or.inl rfl | exact Or.inr (Or.inl rfl) | exact Or.inr (Or.inr rfl)) (hd : (y == ("__debug__" : Str)) = false := by decide)
    (hcd : (y == ("__classdict__" : Str)) = false := by decide) (hN2 : X.N[j]? = some z := by rfl) (hv2 : Vis X.env.scope z := by first | exact Or.inl rfl | exact Or.inr (Or.inl rfl) | exact Or.inr (Or.inr rfl)) (hd2 : (z == ("__debug__" : Str)) = false := by decide)
    (hcd2 : (z == ("__classdict__" : Str)) = false := by decide) (hg : Gl X x := by rfl)
    (hdb : (x == ("__debug__" : Str)) = false := by decide) (he : starEach (.Name y py :: .Name z pz :: es) X.env = (false, eval (.Name y py) X.env) :: starEach (.Name z pz :: es) X.env := by rfl) (he2 : starEach (.Name z pz :: es) X.env = (false, eval (.Name z pz) X.env) :: starEach es X.env := by rfl)
    (hpl : (backTo pos (starEach (.Name z pz :: es) X.env)).any (·.1) = false := by rfl) (hK : X.K = K' := by rfl) : DE X (.Call (.Name x p) (.Name y py :: .Name z pz :: es) [] pos) (tCall (spPP K' s) [] E0 (tCons (tVar i) (tCons (tVar j) t))) (dCallPP i j s w) := by
  subst hK
  exact ⟨pe_call F hr hg hm hk hb .nil pass0 (pa_cons (pe_var hN hv hd hcd) (pa_cons (pe_var hN2 hv2 hd2 hcd2) ha.pa he2) he) hdb he hpl, se_callPP ha.sa⟩
end
def gamPP (N : List Str) (pl wl ds : List D) : List Sl := .own true pl :: .own true wl :: (ds.map .val ++ List.replicate (N.length - (ds.length + 2)) .any)
section
variable {P : Program} {w : World} {K : PySem.W.Frag} {mg : Str → Option Value} {base : Heap} {x qual : Str} {st : Stmt} {f : Addr} {fd : FuncData} {N ps : List Str} {k : Nat}
theorem start_relPP {H S SP : Hp} {p q : Addr} {xs ys : List V} {pl wl : List D} {vs : List V} {ds : List D} (npq : p ≠ q) (e : Same S H) (eP : Same SP S) (h1 : S p = none) (h1' : S q = none) (h2 : H p = some (.lst xs)) (h2' : H q = some (.lst ys)) (h3 : DenL SP xs pl) (h3' : DenL SP ys wl) (hd : DenL S vs ds) : Rel0 K ⟨H, S, [p, q], [], SP⟩ S H (L2.start N (.ref p :: .ref q :: vs)) (gamPP N pl wl ds) := by
  have es : L2.start N (.ref p :: .ref q :: vs) = some (.ref p) :: some (.ref q) :: (vs.map some ++ List.replicate (N.length - (vs.length + 2)) none) := rfl
  have em : ∀ {j a u}, (if j = 0 then L2.upd emptyH p (.lst xs) else if j = 1 then L2.upd emptyH q (.lst ys) else emptyH) a = some u → (j = 0 ∧ a = p ∧ u = .lst xs) ∨ (j = 1 ∧ a = q ∧ u = .lst ys) := fun {j a u} e => by
    by_cases hj : j = 0
    · rw [if_pos hj] at e
      by_cases ha : a = p
      · subst ha; rw [upd_same] at e; cases e; exact .inl ⟨hj, rfl, rfl⟩
      · rw [upd_ne ha] at e; cases e
    · rw [if_neg hj] at e
      by_cases hj1 : j = 1
      · rw [if_pos hj1] at e
        by_cases ha : a = q
        · subst ha; rw [upd_same] at e; cases e; exact .inr ⟨hj1, rfl, rfl⟩
        · rw [upd_ne ha] at e; cases e
      · rw [if_neg hj1] at e; cases e
  refine ⟨fun j => if j = 0 then L2.upd emptyH p (.lst xs) else if j = 1 then L2.upd emptyH q (.lst ys) else emptyH, e, fun a o h _ => h, fun a ha => ?_, Same.refl S, fun a o h => .inl h, ?_, fun i t h => ?_, fun i a u e => ?_, fun i a u e => ?_, fun i j a u v hij e1 e2 => ?_, fun i a u e => ?_, fun p o hp => (by cases hp), List.nodup_nil, eP⟩
  · rcases List.mem_cons.mp ha with z | z
    · subst z; exact ⟨h1, ⟨_, h2⟩, _, h2⟩
    · have z := List.mem_singleton.mp z
      subst z; exact ⟨h1', ⟨_, h2'⟩, _, h2'⟩
  · rw [es]
    simp [gamPP, hd.1]
  · rw [es]
    unfold gamPP at h
    match i, h with
    | 0, h => cases h; exact ⟨p, xs, rfl, upd_same, h3, fun _ => List.mem_cons_self ..⟩
    | 1, h => cases h; exact ⟨q, ys, rfl, upd_same, h3', fun _ => List.mem_cons_of_mem _ (List.mem_cons_self ..)⟩
    | i + 2, h =>
      rw [List.getElem?_cons_succ, List.getElem?_cons_succ] at h ⊢
      by_cases hi : i < ds.length
      · rw [List.getElem?_append_left (by simpa using hi), List.getElem?_map] at h
        obtain ⟨d, hdi⟩ : ∃ d, ds[i]? = some d := ⟨_, List.getElem?_eq_getElem hi⟩
        rw [hdi] at h
        cases h
        obtain ⟨v, hv, dn⟩ := hd.get hdi
        refine ⟨v, ?_, dn⟩
        rw [List.getElem?_append_left (by simpa [hd.1] using hi), List.getElem?_map, hv]
        rfl
      · rw [List.getElem?_append_right (by simpa using hi), List.getElem?_replicate] at h
        split at h
        · cases h; trivial
        · cases h
  · rcases em e with ⟨_, z, z'⟩ | ⟨_, z, z'⟩
    · subst z z'; exact h2
    · subst z z'; exact h2'
  · rcases em e with ⟨_, z, z'⟩ | ⟨_, z, z'⟩
    · subst z; exact h1
    · subst z; exact h1'
  · rcases em e1 with ⟨a1, a2, _⟩ | ⟨a1, a2, _⟩ <;> rcases em e2 with ⟨b1, b2, _⟩ | ⟨b1, b2, _⟩
    · exact hij (a1.trans b1.symm)
    · exact npq (a2.symm.trans b2)
    · exact npq (b2.symm.trans a2)
    · exact hij (a1.trans b1.symm)
  · rcases em e with ⟨z0, z, _⟩ | ⟨z0, z, _⟩
    · subst z0 z; exact ⟨.own true pl, true, rfl, rfl, .inl ⟨rfl, rfl⟩⟩
    · subst z0 z; exact ⟨.own true wl, true, rfl, rfl, .inl ⟨rfl, rfl⟩⟩
/-- THE RULE for a def that changes two lists handed in first -/
theorem fn_okPP {s : SpecPP} (F : Fun K x qual st f fd) (Sc : FnScope N ps (defScope st)) (len : ∀ pl wl ds Q, s.S pl wl ds Q → ds.length + 2 = ps.length)
    (hbody : ∀ (cdv : Value) (A : Around) (outer : List Env) (s0 : Shared) (H : Hp) (E : XK), Room k (A.deeper (envOfC qual (defScope st) s0.heap.objs.size f cdv)) →
      ∃ t w', DSs (Xb.of (cxOf CX0 P w K mg base N qual (defScope st) f cdv A outer s0 H E).nox) (defBody st) t w' ∧ ∀ pl wl ds Q, flats wl → s.S pl wl ds Q → w' { nx := fun γ => ∃ pl' wl', γ[0]? = some (.own true pl') ∧ γ[1]? = some (.own true wl') ∧ Q (.d .non) pl' wl', rt := fun r γ => ∃ pl' wl', γ[0]? = some (.own true pl') ∧ γ[1]? = some (.own true wl') ∧ Q r pl' wl' } (gamPP N pl wl ds)) : FnOk P w K mg base CX0 (k + 1) f fd ps (spPP K s) := by
  refine F.ok Sc (fun vs H Q E h => ?_) (fun cdv A outer s0 H vs Q E hr h => ?_)
  · obtain ⟨S, SP, p, q, xs, ys, pl, wl, vs', ds, rfl, npq, e, eP, h1, h1', h2, h2', h3, h3', fl, hd, q⟩ := h
    rw [List.length_cons, List.length_cons, hd.1]
    exact len _ _ _ _ q
  · obtain ⟨S, SP, p, q, xs, ys, pl, wl, vs', ds, rfl, npq, e, eP, h1, h1', h2, h2', h3, h3', fl, hd, qq⟩ := h
    obtain ⟨t, w', k1, k2⟩ := hbody cdv A outer s0 H E hr
    refine ⟨t, k1.ps, ?_⟩
    have fin : ∀ {i : Nat} {a0 : Addr} {S' H' : Hp} {σ' : L2.St} {γ' : List Sl} {pl' : List D}, [p, q][i]? = some a0 → Rel0 K ⟨H, S, [p, q], [], SP⟩ S' H' σ' γ' → γ'[i]? = some (.own true pl') → ∃ xs', S' a0 = none ∧ H' a0 = some (.lst xs') ∧ DenL SP xs' pl' := fun {i a0 S' H' σ' γ' pl'} ha0 R g => by
      obtain ⟨φ, r⟩ := R
      obtain ⟨b, zs, f1, f2, f3, f4⟩ := r.sl i _ g
      obtain ⟨s', m, c1, c2, c3⟩ := r.phO i _ _ f2
      have eb : b = a0 := by
        rcases c3 with c3 | c3
        · rw [g] at c1
          cases c1
          have : [p, q][i]? = some b := c3.2
          rw [ha0] at this
          exact (Option.some.inj this).symm
        · obtain ⟨_, ⟨o, z⟩, _⟩ := r.muk b (f4 rfl)
          rw [c3] at z; cases z
      subst eb
      exact ⟨zs, r.phS i _ _ f2, r.phH i _ _ f2, f3⟩
    exact k1.ss.run ⟨H, S, [p, q], [], SP⟩ S S H _ (gamPP N pl wl ds) { nx := fun γ => ∃ pl' wl', γ[0]? = some (.own true pl') ∧ γ[1]? = some (.own true wl') ∧ _, rt := fun r γ => ∃ pl' wl', γ[0]? = some (.own true pl') ∧ γ[1]? = some (.own true wl') ∧ _ } _ (Rel0.of (start_relPP npq e eP h1 h1' h2 h2' h3 h3' hd)) (Same.refl S) ⟨fun S' H' σ' γ' _ R ⟨pl', wl', g, g', q⟩ => by
        obtain ⟨zs, f2, f3, f4⟩ := fin (i := 0) rfl R.r g
        obtain ⟨us, u2, u3, u4⟩ := fin (i := 1) rfl R.r g'
        exact q _ _ _ zs us R.nil f2 u2 f3 u3 f4 u4 .non, fun S' H' σ' γ' v r _ R rv ⟨pl', wl', g, g', q⟩ => by
        obtain ⟨zs, f2, f3, f4⟩ := fin (i := 0) rfl R.r g
        obtain ⟨us, u2, u3, u4⟩ := fin (i := 1) rfl R.r g'
        exact q v _ _ zs us R.nil f2 u2 f3 u3 f4 u4 rv, fun S' H' σ' γ' _ R q => q.elim, fun S' H' σ' γ' _ R q => q.elim⟩ (k2 pl wl ds _ fl qq)
end
end DL
set_option Elab.async false
set_option linter.all false
set_option autoImplicit false
set_option maxRecDepth 100000
set_option maxHeartbeats 4000000
/-! DL23: texts: +, str(int), f-strings, join; star items. -/
namespace DL
open PySem PySem.Spec PyProof.Rows L2

def rAddStr : R2 := fun x y H Q => ∃ i j, x = .str i ∧ y = .str j ∧ i.length + j.length ≤ sizeLine ∧ Q (.str (i ++ j)) H
def addSD (x y : D) (Q : D → Prop) : Prop := ∃ i j, x = .str i ∧ y = .str j ∧ i.length + j.length ≤ sizeLine ∧ Q (.str (i ++ j))
def strID (ds : List D) (Q : D → Prop) : Prop := ∃ i : Int, ds = [.int i] ∧ i.natAbs.log2 < 1920 ∧ Q (.str (toString i))
section
variable {X : Xb} {K : PySem.W.Frag} {a b e : Expr} {ta tb te : TE} {wa wb we : WE} {pos p : Pos} {es : List Expr} {t : TA} {w : WA}
/-- a part of an f-string -/
def dFmt (we : WE) : WE := fun γ Q => we γ fun x γ1 => (∃ y : Str, x = .str y ∧ y.length ≤ sizeLine ∧ Q (.str y) γ1) ∨ ∃ i : Int, x = .int i ∧ i.natAbs.log2 < 1920 ∧ Q (.str (toString i)) γ1
inductive DJ (X : Xb) : List Expr → List TE → List WE → Prop where
  | nil : DJ X [] [] []
  | cons {e : Expr} {t : TE} {w : WE} {es : List Expr} {ts : List TE} {ws : List WE} (h : DE X e t w) (r : DJ X es ts ws) : DJ X (e :: es) (t :: ts) (w :: ws)
def dJs : List WE → Str → List Sl → (Str → List Sl → Prop) → Prop
  | [], acc, γ, Q => Q acc γ
  | w :: ws, acc, γ, Q => w γ fun x γ1 => ∃ y : Str, x = .str y ∧ (acc ++ y).length ≤ sizeLine ∧ dJs ws (acc ++ y) γ1 Q
theorem DJ.mono {es : List Expr} {ts : List TE} {ws : List WE} (h : DJ X es ts ws) : ∀ acc γ (P P' : Str → List Sl → Prop), (∀ x γ, P x γ → P' x γ) → dJs ws acc γ P → dJs ws acc γ P' := by
  induction h with
  | nil => exact fun acc γ P P' k q => k _ _ q
  | cons h _ ih => exact fun acc γ P P' k q => h.se.mono γ _ _ (fun x γ1 ⟨y, e, c, q⟩ => ⟨y, e, c, ih _ _ _ _ k q⟩) q
theorem DJ.run {es : List Expr} {ts : List TE} {ws : List WE} (h : DJ X es ts ws) : ∀ B S H σ γ acc (Q : Str → Hp → Prop), Rel X B S H σ γ → dJs ws acc γ (fun x γ' => ∀ S' H', Rel X B S' H' σ γ' → Same S S' → Q x H') → tJs ts acc σ H Q := by
  induction h with
  | nil => exact fun B S H σ γ acc Q R q => q S H R (Same.refl S)
  | cons h r ih =>
    intro B S H σ γ acc Q R q
    refine h.se.run B S H σ γ _ R (h.se.mono γ _ _ (fun x γ1 ⟨y, e, c, q⟩ v S1 H1 R1 e1 d1 => ?_) q)
    subst e; cases d1
    exact ⟨y, rfl, c, ih B S1 H1 σ γ1 _ Q R1 (r.mono _ _ _ _ (fun x γ2 q S2 H2 R2 e2 => q S2 H2 R2 (e1.trans e2)) q)⟩
def dJoined (ws : List WE) : WE := fun γ Q => dJs ws Str.empty γ fun out γ1 => Q (.str out) γ1
/-- *items among arguments -/
def dStar (we : WE) (w : WA) : WA := fun γ Q => we γ fun d γ1 => ∃ xs, (d = .lst xs ∨ d = .tup xs) ∧ w γ1 fun ds γ2 => Q (xs ++ ds) γ2
theorem da_star (K' : PySem.W.Frag) (he : DE X e te we) (h : DA X es t w) (hs : starEach (.Starred e p :: es) X.env = (true, eval e X.env) :: starEach es X.env := by rfl) (hK : X.K = K' := by rfl) : DA X (.Starred e p :: es) (StX.tStar K' te t) (dStar we w) := by
  subst hK
  refine ⟨StX.pa_star he.pe h.pa hs, fun γ P P' k q => he.se.mono γ _ _ (fun x γ1 ⟨xs, e, q⟩ => ⟨xs, e, h.sa.mono γ1 _ _ (fun ds γ2 q => k _ _ q) q⟩) q, fun B S H σ γ Q R q => ?_⟩
  refine he.se.run B S H σ γ _ R (he.se.mono γ _ _ (fun x γ1 ⟨xs, e, q⟩ v S1 H1 R1 e1 d1 => ?_) q)
  rcases e with e | e
  · subst e
    obtain ⟨c, ys, rfl, g2, g3⟩ := d1.lst_inv
    exact ⟨c, ys, rfl, .inr (SqL.of (R1.same _ _ g2)), h.sa.run B S1 H1 σ γ1 _ R1 (h.sa.mono γ1 _ _ (fun ds γ2 q vs S2 H2 R2 e2 d2 => q _ S2 H2 R2 (e1.trans e2) ((g3.mono e2).append d2)) q)⟩
  · subst e
    obtain ⟨c, ys, rfl, g2, g3⟩ := d1.tup_inv
    exact ⟨c, ys, rfl, .inl (SqT.of (R1.same _ _ g2)), h.sa.run B S1 H1 σ γ1 _ R1 (h.sa.mono γ1 _ _ (fun ds γ2 q vs S2 H2 R2 e2 d2 => q _ S2 H2 R2 (e1.trans e2) ((g3.mono e2).append d2)) q)⟩
/-- sep.join(texts) -/
def dJoin (wo we : WE) : WE := fun γ Q => wo γ fun x γ1 => (∃ a, x = .str a) ∧ we γ1 fun y γ2 => ∃ (a : Str) (ys : List Str), x = .str a ∧ y = .lst (ys.map D.str) ∧ (ys.map (·.length)).sum + ys.length * a.length ≤ 16777216 ∧ Q (.str (Txt.join a ys)) γ2
def rJoin (K : PySem.W.Frag) : V → List V → Hp → VK → Prop := fun x xs H Q => ∃ a p, ∃ ys : List Str, x = .str a ∧ xs = [.ref p] ∧ (SqL K H p (ys.map V.str) ∨ SqT K H p (ys.map V.str)) ∧ (ys.map (·.length)).sum + ys.length * a.length ≤ 16777216 ∧ Q (.str (Txt.join a ys)) H
end
end DL
set_option Elab.async false
set_option linter.all false
set_option autoImplicit false
set_option maxRecDepth 100000
set_option maxHeartbeats 4000000
/-! DL24: dicts of the module with text keys and ints, t + u of tuples, calls with a star, head facts with tables. -/
namespace DL
open PySem PySem.Spec PyProof.Rows L2 He

/-! ### a dict of the module -/
structure Dc (K : PySem.W.Frag) (w : World) (mg : Str → Option Value) (x : Str) (kvs : List (Str × Int)) (no : List Str) : Type where
  a : Addr
  g : mg x = some (.ref a)
  D : ∃ es n, KDict K w a es n
  yes : ∀ q ∈ kvs, ∃ u, PySem.W.nsIn K a q.1 = some (some u) ∧ RelV (.int q.2) u
  non : ∀ z ∈ no, PySem.W.nsIn K a z = some none
/-- is the text a key? (none: not known) -/
def kdIn (kvs : List (Str × Int)) (no : List Str) (z : Str) : Option Bool := if z ∈ kvs.map (·.1) then some true else if z ∈ no then some false else none
def kdAt (kvs : List (Str × Int)) (z : Str) : Option Int := kvs.lookup z
theorem lookup_mem {kvs : List (Str × Int)} {z : Str} {i : Int} : kvs.lookup z = some i → (z, i) ∈ kvs := by
  induction kvs with
  | nil => intro h; cases h
  | cons q r ih =>
    obtain ⟨k, j⟩ := q
    intro h
    by_cases e : z = k
    · subst e
      rw [List.lookup_cons_self] at h
      cases h
      exact List.mem_cons_self ..
    · rw [List.lookup_cons, beq_eq_false_iff_ne.mpr e] at h
      exact List.mem_cons_of_mem _ (ih h)
section
variable {X : Xb} {K : PySem.W.Frag} {e a b : Expr} {te ta tb : TE} {we wa wb : WE} {pos p : Pos} {x : Str} {kvs : List (Str × Int)} {no : List Str}
def dInKd (kvs : List (Str × Int)) (no : List Str) (we : WE) : WE := fun γ Q => we γ fun y γ1 => ∃ z b, y = .str z ∧ kdIn kvs no z = some b ∧ Q (.bl b) γ1
def rInKd (K : PySem.W.Frag) (a : Addr) : R2 := fun x y H Q => ∃ (z : Str) (r : Option Value), x = .str z ∧ y = .ref a ∧ PySem.W.nsIn K a z = some r ∧ Q (.bl r.isSome) H
theorem de_inKd (K' : PySem.W.Frag) {w : World} (T : Dc K' w X.mg x kvs no) (he : DE X e te we) (hg : Gl X x := by rfl) (hdb : (x == ("__debug__" : Str)) = false := by decide) (hK : X.K = K' := by rfl) (hw : X.w = w := by rfl) : DE X (.Compare e [.In] [.Name x p] pos) (tOp (rInKd K' T.a) te (tC (.ref T.a))) (dInKd kvs no we) := by
  subst hK hw
  obtain ⟨es, n, kd⟩ := T.D
  refine ⟨pe_cmpR (op_in_kd kd) he.pe (pe_glob hg T.g rfl hdb) (by with_unfolding_all rfl), fun γ P P' k q => he.se.mono γ _ _ (fun y γ1 ⟨z, b, e1, e2, q⟩ => ⟨z, b, e1, e2, k _ _ q⟩) q, fun B S H σ γ Q R q => ?_⟩
  refine he.se.run B S H σ γ _ R (he.se.mono γ _ _ (fun y γ1 ⟨z, b, e1, e2, q⟩ v S1 H1 R1 e3 d1 => ?_) q)
  subst e1
  cases d1
  unfold kdIn at e2
  by_cases h : z ∈ kvs.map (·.1)
  · rw [if_pos h] at e2
    cases e2
    obtain ⟨kv, hkv, rfl⟩ := List.mem_map.mp h
    obtain ⟨u, hu, _⟩ := T.yes kv hkv
    exact ⟨_, some u, rfl, rfl, hu, q _ S1 H1 R1 e3 (.bl _)⟩
  · rw [if_neg h] at e2
    by_cases h2 : z ∈ no
    · rw [if_pos h2] at e2
      cases e2
      exact ⟨_, none, rfl, rfl, T.non z h2, q _ S1 H1 R1 e3 (.bl _)⟩
    · rw [if_neg h2] at e2
      cases e2
def dAtKd (kvs : List (Str × Int)) (we : WE) : WE := fun γ Q => we γ fun y γ1 => ∃ z i, y = .str z ∧ kdAt kvs z = some i ∧ Q (.int i) γ1
theorem de_atKd (K' : PySem.W.Frag) {w : World} (T : Dc K' w X.mg x kvs no) (he : DE X e te we) (hs : PlainIx e := by exact fun _ _ => rfl) (hg : Gl X x := by rfl) (hdb : (x == ("__debug__" : Str)) = false := by decide) (hK : X.K = K' := by rfl) (hw : X.w = w := by rfl) : DE X (.Subscript (.Name x p) e pos) (tOp (rIxD K' w) (tC (.ref T.a)) te) (dAtKd kvs we) := by
  subst hK hw
  obtain ⟨es, n, kd⟩ := T.D
  refine ⟨pe_ix ix_kdict (pe_glob hg T.g rfl hdb) he.pe hs, fun γ P P' k q => he.se.mono γ _ _ (fun y γ1 ⟨z, b, e1, e2, q⟩ => ⟨z, b, e1, e2, k _ _ q⟩) q, fun B S H σ γ Q R q => ?_⟩
  refine he.se.run B S H σ γ _ R (he.se.mono γ _ _ (fun y γ1 ⟨z, b, e1, e2, q⟩ v S1 H1 R1 e3 d1 => ?_) q)
  subst e1
  cases d1
  obtain ⟨u, hu, ru⟩ := T.yes _ (lookup_mem e2)
  exact ⟨T.a, z, .int b, rfl, rfl, ⟨es, n, u, kd.at_, kd.lit, hu, ru⟩, q _ S1 H1 R1 e3 (.int _)⟩

/-! ### t + u -/
def dCatT (wa wb : WE) : WE := fun γ Q => wa γ fun x γ1 => wb γ1 fun y γ2 => ∃ ds es, x = .tup ds ∧ y = .tup es ∧ ds.length + es.length ≤ sizeLine ∧ Q (.tup (ds ++ es)) γ2
theorem de_catT (K' : PySem.W.Frag) (ha : DE X a ta wa) (hb : DE X b tb wb) (hK : X.K = K' := by rfl) : DE X (.BinOp a .Add b pos) (tOp (rCatA K') ta tb) (dCatT wa wb) := by
  subst hK
  refine ⟨pe_op op_catA ha.pe hb.pe, fun γ P P' k q => ha.se.mono γ _ _ (fun x γ1 q => hb.se.mono γ1 _ _ (fun y γ2 ⟨ds, es, e1, e2, hz, q⟩ => ⟨ds, es, e1, e2, hz, k _ _ q⟩) q) q, fun B S H σ γ Q R q => ?_⟩
  refine ha.se.run B S H σ γ _ R (ha.se.mono γ _ _ (fun x γ1 q1 v S1 H1 R1 e1 d1 => ?_) q)
  refine hb.se.run B S1 H1 σ γ1 _ R1 (hb.se.mono γ1 _ _ (fun y γ2 ⟨ds, es, f1, f2, hz, q2⟩ u S2 H2 R2 e2 d2 => ?_) q1)
  clear q1
  subst f1 f2
  obtain ⟨l, xs, rfl, g2, g3⟩ := d1.tup_inv
  obtain ⟨m, ys, rfl, h2, h3⟩ := d2.tup_inv
  refine ⟨l, m, xs, ys, rfl, rfl, SqT.of (R2.same _ _ (e2 _ _ g2)), SqT.of (R2.same _ _ h2), by rw [g3.1, h3.1]; exact hz, fun z => ?_, fun z z2 => ?_, fun z z2 p hp => ?_⟩
  · subst z
    have : ds = [] := List.length_eq_zero_iff.mp g3.1.symm
    subst this
    exact q2 _ S2 H2 R2 (e1.trans e2) (.ofT h2 h3)
  · subst z2
    have : es = [] := List.length_eq_zero_iff.mp h3.1.symm
    subst this
    rw [List.append_nil] at q2
    exact q2 _ S2 H2 R2 (e1.trans e2) (.ofT (e2 _ _ g2) (g3.mono e2))
  · have e4 : Same S2 (upd S2 p (.tup (xs ++ ys))) := Same.upd (Same.refl S2) (R2.freshS hp)
    exact q2 _ _ _ (R2.new hp) (e1.trans (e2.trans e4)) (.ofT upd_same (((g3.mono e2).append h3).mono e4))
/-- t[lo:hi] of a tuple -/
def dSlT (wa : WE) (wl wh : WO) : WE := fun γ Q => wa γ fun x γ1 => wl γ1 fun l γ2 => wh γ2 fun h γ3 => ∃ ds, x = .tup ds ∧ Q (.tup (cutL ds l h)) γ3
theorem cutL_all {ds : List D} {l h : Option Int} (h1 : HT.sIx ds.length 0 l = 0) (h2 : HT.sIx ds.length ds.length h = ds.length) : cutL ds l h = ds := by
  unfold cutL
  rw [h1, h2, List.drop_zero, Nat.sub_zero, List.take_length]
theorem de_slT (K' : PySem.W.Frag) {lo hi : Option Expr} {tl th : TO} {wl wh : WO} {p2 : Pos} (ha : DE X a ta wa) (hl : DO X lo tl wl) (hh : DO X hi th wh) (hK : X.K = K' := by rfl) : DE X (.Subscript a (.Slice lo hi none p2) pos) (tSl (rSlA K') ta tl th) (dSlT wa wl wh) := by
  subst hK
  refine ⟨pe_slice sl_tupA ha.pe hl.po hh.po, fun γ P P' k q => ha.se.mono γ _ _ (fun x γ1 q => hl.so.mono γ1 _ _ (fun l γ2 q => hh.so.mono γ2 _ _ (fun h γ3 ⟨ds, e, q⟩ => ⟨ds, e, k _ _ q⟩) q) q) q, fun B S H σ γ Q R q => ?_⟩
  refine ha.se.run B S H σ γ _ R (ha.se.mono γ _ _ (fun x γ1 q1 v S1 H1 R1 e1 d1 => ?_) q)
  refine hl.so.run B S1 H1 σ γ1 _ R1 (hl.so.mono γ1 _ _ (fun l γ2 q2 S2 H2 R2 e2 => ?_) q1)
  refine hh.so.run B S2 H2 σ γ2 _ R2 (hh.so.mono γ2 _ _ (fun h γ3 q3 S3 H3 R3 e3 => ?_) q2)
  obtain ⟨ds, e, q4⟩ := q3
  clear q1 q2
  subst e
  obtain ⟨p, xs, g1, g2, g3⟩ := d1.tup_inv
  subst g1
  refine ⟨p, xs, rfl, SqT.of (R3.same _ _ (e3 _ _ (e2 _ _ g2))), fun z => ?_, fun z p' hp => ?_⟩
  · rw [g3.1] at z
    rw [cutL_all z.1 z.2] at q4
    exact q4 _ S3 H3 R3 (e1.trans (e2.trans e3)) (.ofT (e3 _ _ (e2 _ _ g2)) (g3.mono (e2.trans e3)))
  · have e4 : Same S3 (upd S3 p' (.tup (cutV xs l h))) := Same.upd (Same.refl S3) (R3.freshS hp)
    exact q4 _ _ _ (R3.new hp) (e1.trans (e2.trans (e3.trans e4))) (.ofT upd_same ((g3.cut l h).mono (e2.trans (e3.trans e4))))

/-! ### calls with a star -/
variable {f : Addr} {fd : FuncData} {ps : List Str} {k : Nat} {es : List Expr} {t : TA} {w : WA}
theorem de_callSt (K' : PySem.W.Frag) {s : SpecD} (F : FnOk X.prog X.w X.K X.mg X.base CX0 k f fd ps (spV K' s)) (hr : Room k X.A) (hm : X.mg x = some (.ref f)) (hk : PySem.W.keepIn X.K (.ref f) = true) (hb : Binds X.K fd ps []) (ha : DA X (e :: es) t w) (hg : Gl X x := by rfl)
    (hdb : (x == ("__debug__" : Str)) = false := by decide) (he : starEach (e :: es) X.env = (false, eval e X.env) :: starEach es X.env := by rfl) (hst : (backTo pos (starEach es X.env)).any (·.1) = true := by rfl) (hK : X.K = K' := by rfl) : DE X (.Call (.Name x p) (e :: es) [] pos) (tCall (spV K' s) [] E0 t) (dCallS s w) := by
  subst hK
  exact ⟨StX.pe_callS2 (sp := fun vs H Q E => spV X.K s (vs ++ []) H Q E) (F.raw hb .nil) hr hk hg hm pass0 ha.pa hdb he hst, se_callS ha.sa⟩
end
section
variable {γ : List Sl} {Q : D → List Sl → Prop} {wa wb we : WE} {wl wh : WO} {kvs : List (Str × Int)} {no : List Str} {ds es : List D}
theorem i_inKd (q : we γ fun y γ1 => ∃ z b, y = .str z ∧ kdIn kvs no z = some b ∧ Q (.bl b) γ1) : dInKd kvs no we γ Q := q
instance : Go (dInKd kvs no we γ Q) (we γ fun y γ1 => ∃ z b, y = .str z ∧ kdIn kvs no z = some b ∧ Q (.bl b) γ1) := ⟨fun z => i_inKd z⟩
theorem i_inKd2 {F : Bool → Prop} {z : Str} {b : Bool} (h : kdIn kvs no z = some b) (q : F b) : ∃ z' b, D.str z = .str z' ∧ kdIn kvs no z' = some b ∧ F b := ⟨z, b, rfl, h, q⟩
theorem i_atKd (q : we γ fun y γ1 => ∃ z i, y = .str z ∧ kdAt kvs z = some i ∧ Q (.int i) γ1) : dAtKd kvs we γ Q := q
instance : Go (dAtKd kvs we γ Q) (we γ fun y γ1 => ∃ z i, y = .str z ∧ kdAt kvs z = some i ∧ Q (.int i) γ1) := ⟨fun z => i_atKd z⟩
theorem i_atKd2 {F : Int → Prop} {z : Str} {i : Int} (h : kdAt kvs z = some i) (q : F i) : ∃ z' i, D.str z = .str z' ∧ kdAt kvs z' = some i ∧ F i := ⟨z, i, rfl, h, q⟩
theorem i_catT (q : wa γ fun x γ1 => wb γ1 fun y γ2 => ∃ ds es, x = .tup ds ∧ y = .tup es ∧ ds.length + es.length ≤ sizeLine ∧ Q (.tup (ds ++ es)) γ2) : dCatT wa wb γ Q := q
instance : Go (dCatT wa wb γ Q) (wa γ fun x γ1 => wb γ1 fun y γ2 => ∃ ds es, x = .tup ds ∧ y = .tup es ∧ ds.length + es.length ≤ sizeLine ∧ Q (.tup (ds ++ es)) γ2) := ⟨fun z => i_catT z⟩
theorem i_catT2 {F : List D → List D → Prop} (h : ds.length + es.length ≤ 100000) (q : F ds es) : ∃ a b, D.tup ds = .tup a ∧ D.tup es = .tup b ∧ a.length + b.length ≤ sizeLine ∧ F a b := ⟨ds, es, rfl, rfl, smallN h, q⟩
theorem i_slT (q : wa γ fun x γ1 => wl γ1 fun l γ2 => wh γ2 fun h γ3 => ∃ ds, x = .tup ds ∧ Q (.tup (cutL ds l h)) γ3) : dSlT wa wl wh γ Q := q
instance : Go (dSlT wa wl wh γ Q) (wa γ fun x γ1 => wl γ1 fun l γ2 => wh γ2 fun h γ3 => ∃ ds, x = .tup ds ∧ Q (.tup (cutL ds l h)) γ3) := ⟨fun z => i_slT z⟩
end

/-! ### the head's facts, with tables -/
section
variable {fa : List Fa} {fn : List DefD} {xs : List (PySem.W.Frag → Bool)} {ts : List Tab} {w : World} {K : PySem.W.Frag}
theorem SaysET.e (c : SaysET fa fn xs ts w K) : SaysE fa fn xs K := congrArg (fun z : AlT => z.1) c
theorem SaysET.tab (c : SaysET fa fn xs ts w K) (i : Nat) {t : Tab} (h : ts[i]? = some t := by rfl) : ∃ es n, KDict K w (t.1 K) es n := by
  have e : ts.map (fun t => dicW K (t.1 K)) = ts.map fun t => some (keysIn w.params t.2) := congrArg (fun z : AlT => z.2) c
  have e2 : (ts.map fun t => dicW K (t.1 K))[i]? = (ts.map fun t => some (keysIn w.params t.2))[i]? := by rw [e]
  rw [List.getElem?_map, List.getElem?_map, h] at e2
  exact dicW_ok (Option.some.inj e2)
end
def Dc.of {K : PySem.W.Frag} {w : World} {h : Heap} {mg : Str → Option Value} {x : Str} {kvs : List (Str × Int)} {no : List Str} (X : K.In h) (G : h.Ns mainGlobals mg) (hg : (Fa.glo x).ok K = true) (hd : ∃ es n, KDict K w (ga K x) es n) (hb : kdB x kvs no K = true) : Dc K w mg x kvs no :=
  { a := ga K x
    g := glo_ok X G hg
    D := hd
    yes := fun q hq => valsB_ok (ba hb).1 (q := (q.1, Dv.int q.2)) (List.mem_map.mpr ⟨q, hq, rfl⟩)
    non := fun z hz => eqO_ok (List.all_eq_true.mp (ba hb).2 z hz) }
end DL
set_option Elab.async false
set_option linter.all false
set_option autoImplicit false
set_option maxRecDepth 100000
set_option maxHeartbeats 4000000
/-! DL25: steps for texts, star items, calls that change two lists; loops and comprehensions over lists told by a function. -/
namespace DL
open PySem PySem.Spec PyProof.Rows L2
section
variable {γ : List Sl} {Q : D → List Sl → Prop} {QA : List D → List Sl → Prop} {QF : List D → List Sl → Prop} {wa wb we wo : WE} {wA : WA} {w : WE} {ws : List WE} {ds es : List D} {R : D → Prop} {wg : WG} {Dd : EndsD}
theorem i_fmt (q : we γ fun x γ1 => (∃ y : Str, x = .str y ∧ y.length ≤ sizeLine ∧ Q (.str y) γ1) ∨ ∃ i : Int, x = .int i ∧ i.natAbs.log2 < 1920 ∧ Q (.str (toString i)) γ1) : dFmt we γ Q := q
instance : Go (dFmt we γ Q) (we γ fun x γ1 => (∃ y : Str, x = .str y ∧ y.length ≤ sizeLine ∧ Q (.str y) γ1) ∨ ∃ i : Int, x = .int i ∧ i.natAbs.log2 < 1920 ∧ Q (.str (toString i)) γ1) := ⟨fun z => i_fmt z⟩
theorem i_joined (q : dJs ws Str.empty γ fun out γ1 => Q (.str out) γ1) : dJoined ws γ Q := q
instance : Go (dJoined ws γ Q) (dJs ws Str.empty γ fun out γ1 => Q (.str out) γ1) := ⟨fun z => i_joined z⟩
theorem i_jnil {acc : Str} {QS : Str → List Sl → Prop} (q : QS acc γ) : dJs [] acc γ QS := q
instance {acc : Str} {QS : Str → List Sl → Prop} : Go (dJs [] acc γ QS) (QS acc γ) := ⟨fun z => i_jnil z⟩
theorem i_jcons {acc : Str} {QS : Str → List Sl → Prop} (q : w γ fun x γ1 => ∃ y : Str, x = .str y ∧ (acc ++ y).length ≤ sizeLine ∧ dJs ws (acc ++ y) γ1 QS) : dJs (w :: ws) acc γ QS := q
instance {acc : Str} {QS : Str → List Sl → Prop} : Go (dJs (w :: ws) acc γ QS) (w γ fun x γ1 => ∃ y : Str, x = .str y ∧ (acc ++ y).length ≤ sizeLine ∧ dJs ws (acc ++ y) γ1 QS) := ⟨fun z => i_jcons z⟩
theorem str_len_append (x y : Str) : (x ++ y).length = x.length + y.length := by
  show (x.cps ++ y.cps).size = _
  rw [Array.size_append]; rfl
theorem i_star (q : we γ fun d γ1 => ∃ xs, (d = .lst xs ∨ d = .tup xs) ∧ wA γ1 fun ds γ2 => QA (xs ++ ds) γ2) : dStar we wA γ QA := q
instance : Go (dStar we wA γ QA) (we γ fun d γ1 => ∃ xs, (d = .lst xs ∨ d = .tup xs) ∧ wA γ1 fun ds γ2 => QA (xs ++ ds) γ2) := ⟨fun z => i_star z⟩
theorem i_join (q : wo γ fun x γ1 => (∃ a, x = .str a) ∧ we γ1 fun y γ2 => ∃ (a : Str) (ys : List Str), x = .str a ∧ y = .lst (ys.map D.str) ∧ (ys.map (·.length)).sum + ys.length * a.length ≤ 16777216 ∧ Q (.str (Txt.join a ys)) γ2) : dJoin wo we γ Q := q
instance : Go (dJoin wo we γ Q) (wo γ fun x γ1 => (∃ a, x = .str a) ∧ we γ1 fun y γ2 => ∃ (a : Str) (ys : List Str), x = .str a ∧ y = .lst (ys.map D.str) ∧ (ys.map (·.length)).sum + ys.length * a.length ≤ 16777216 ∧ Q (.str (Txt.join a ys)) γ2) := ⟨fun z => i_join z⟩
theorem i_jo {x : Str} {P : Prop} (q : P) : (∃ a, D.str x = .str a) ∧ P := ⟨⟨x, rfl⟩, q⟩
instance {x : Str} {P : Prop} : Go ((∃ a, D.str x = .str a) ∧ P) (P) := ⟨fun z => i_jo z⟩
theorem i_callPP {i j : Nat} {m m2 : Bool} {pl wl : List D} {s : SpecPP} (hn : i ≠ j) (g : γ[i]? = some (.own m pl)) (g2 : γ[j]? = some (.own m2 wl)) (q : wA γ fun ds γ1 => ∃ m pl m2 wl, γ1[i]? = some (.own m pl) ∧ γ1[j]? = some (.own m2 wl) ∧ flats wl ∧ s.S pl wl ds fun r pl' wl' => flats wl' ∧ Q r.val ((γ1.set j (.own m2 wl')).set i (.own m pl'))) : dCallPP i j s wA γ Q :=
  ⟨hn, ⟨m, pl, g⟩, ⟨m2, wl, g2⟩, q⟩
theorem i_callPP2 {i j : Nat} {m m2 : Bool} {pl wl : List D} {P : Bool → List D → Bool → List D → Prop} (g : γ[i]? = some (.own m pl)) (g2 : γ[j]? = some (.own m2 wl)) (f : flats wl) (q : P m pl m2 wl) : ∃ m pl m2 wl, γ[i]? = some (.own m pl) ∧ γ[j]? = some (.own m2 wl) ∧ flats wl ∧ P m pl m2 wl := ⟨m, pl, m2, wl, g, g2, f, q⟩
/-- a comprehension that changes nothing, over the items told by a function -/
theorem i_mapM {α : Type} {xs : List α} {items : List D} {vs : List Nat} (it g : α → D) (he : items = xs.map it) (hz : xs.length ≤ 100000) (ha : anyAt γ vs = true)
    (h : ∀ x ∈ xs, ∀ R : D → List Sl → Prop, (∀ γ4, wipeG γ4 vs = γ → R (g x) γ4) → wg (it x) γ fun γ2 => we γ2 R) (q : QF (xs.map g) γ) :
    LcG items γ wg dYes we vs QF := by
  subst he
  refine ⟨by rw [List.length_map]; exact smallN hz, anyAt_ok ha, fun i acc γ' => γ' = γ ∧ acc = (xs.take i).map g, ⟨rfl, rfl⟩, ?_, ?_⟩
  · rintro i acc γ' d hd ⟨rfl, rfl⟩
    rw [List.getElem?_map] at hd
    obtain ⟨x, hx, rfl⟩ := Option.map_eq_some_iff.mp hd
    refine ⟨anyAt_ok ha, ?_⟩
    refine h x (List.mem_of_getElem? hx) (fun y γ4 => wipeG γ4 vs = γ' ∧ (xs.take i).map g ++ [y] = (xs.take (i + 1)).map g) (fun γ4 e => ⟨e, ?_⟩)
    rw [List.take_add_one, hx, List.map_append]
    rfl
  · rintro acc γ' ⟨rfl, rfl⟩
    refine ⟨anyAt_ok ha, ?_⟩
    rw [List.length_map, List.take_length]
    exact q
end
end DL
namespace DL
open PySem PySem.Spec PyProof.Rows L2
/-- the sizes of statements (the program's table, for the steps) -/
abbrev SZ : List (Str × Int) := [("set", 3), ("carry", 2), ("keep", 3), ("either", 3), ("again", 2), ("call", 4), ("end", 2)]
theorem kdAt_set : kdAt SZ "set" = some 3 := by decide +kernel
theorem kdAt_carry : kdAt SZ "carry" = some 2 := by decide +kernel
theorem kdAt_call : kdAt SZ "call" = some 4 := by decide +kernel
end DL
namespace DL
open PySem PySem.Spec PyProof.Rows L2
/-- a promise by parameters whose answer is told by a function -/
def SpecD.fn {α : Type} (args : α → List D) (pre : α → Prop) (f : α → Rv) : SpecD := ⟨fun ds Q => ∃ a, ds = args a ∧ pre a ∧ Q (f a), fun ds P P' k ⟨a, e, h, q⟩ => ⟨a, e, h, k _ q⟩⟩
end DL
namespace DL
open PySem PySem.Spec PyProof.Rows L2
def isZ (d : D) : Bool := isI d && !isB d
theorem isZ_i (i : Int) : isZ (.int i) = true := rfl
theorem isZ_b (b : Bool) : isZ (.bl b) = false := rfl
theorem isZ_n : isZ .non = false := rfl
theorem isZ_s (s : Str) : isZ (.str s) = false := rfl
theorem isZ_l (ds : List D) : isZ (.lst ds) = false := rfl
theorem isZ_t (ds : List D) : isZ (.tup ds) = false := rfl
theorem isZ_o (C : Addr) (fs : List (Str × D)) : isZ (.obj C fs) = false := rfl
theorem isZ_e : isZ .emp = false := rfl
theorem i_iteDT {p : Prop} [Decidable p] {A B : Prop} (h : p) (q : A) : if decide p = true then A else B := by rw [if_pos (decide_eq_true h)]; exact q
theorem i_iteDF {p : Prop} [Decidable p] {A B : Prop} (h : ¬ p) (q : B) : if decide p = true then A else B := by rw [if_neg (by rw [decide_eq_false h]; decide)]; exact q
theorem i_iteND {p : Prop} [Decidable p] {A B : Prop} (h : p) (q : B) : if (!decide p) = true then A else B := by rw [if_neg (by rw [decide_eq_true h]; decide)]; exact q
end DL
namespace DL
end DL
namespace DL
open PySem PySem.Spec PyProof.Rows L2
/-- a loop over enumerate(..): the items done, those left -/
theorem i_forE {α : Type} {γ : List Sl} {xs : List α} {items : List D} {wg : WG} {wb : WS} {nx : List Sl → Prop} {rt : Rv → List Sl → Prop} (it : α → D) (I : List α → List Sl → Prop) (he : items = xs.map it) (h0 : I [] γ)
    (h : ∀ pre x post γ, xs = pre ++ x :: post → I pre γ → wg (.tup [.int (pre.length : Nat), it x]) γ fun γ2 => wb ⟨I (pre ++ [x]), rt, nx, I (pre ++ [x])⟩ γ2) (q : ∀ γ, I xs γ → nx γ) :
    ∃ J : Nat → List Sl → Prop, J 0 γ ∧ (∀ i d γ, (enumD items)[i]? = some d → J i γ → wg d γ fun γ2 => wb ⟨J (i + 1), rt, nx, J (i + 1)⟩ γ2) ∧ ∀ γ, J (enumD items).length γ → nx γ := by
  subst he
  refine ⟨fun i γ => I (xs.take i) γ, h0, ?_, ?_⟩
  · intro i d γ hd hI
    have hi : i < xs.length := by
      have := (List.getElem?_eq_some_iff.mp hd).1
      rwa [enumD_len, List.length_map] at this
    have hx : xs[i]? = some xs[i] := List.getElem?_eq_getElem hi
    rw [enumD_get (d := it xs[i]) (by rw [List.getElem?_map, hx]; rfl)] at hd
    cases hd
    have e : xs.take (i + 1) = xs.take i ++ [xs[i]] := by rw [List.take_add_one, hx]; rfl
    have el : (xs.take i).length = i := by rw [List.length_take]; omega
    show wg (.tup [.int (i : Nat), it xs[i]]) γ fun γ2 => wb ⟨I (xs.take (i + 1)), rt, nx, I (xs.take (i + 1))⟩ γ2
    rw [e]
    have key := h (xs.take i) xs[i] (xs.drop (i + 1)) γ (by rw [← List.drop_eq_getElem_cons hi, List.take_append_drop]) hI
    rw [el] at key
    exact key
  · intro γ hI
    rw [enumD_len, List.length_map, List.take_length] at hI
    exact q γ hI
end DL
namespace DL
open PySem PySem.Spec PyProof.Rows L2
theorem len_lit (s : String) : (Str.ofString s).length = s.toList.length := by
  have := TL.tl_ofString s
  have h2 : (TL.tl (Str.ofString s)).length = s.toList.length := by rw [this, List.length_map]
  exact h2
theorem len_empty : Str.empty.length = 0 := rfl
end DL
namespace DL
open PySem PySem.Spec PyProof.Rows L2
end DL
namespace DL
open PySem PySem.Spec PyProof.Rows L2
theorem fn_nonePP {P : Program} {w : World} {K : PySem.W.Frag} {mg : Str → Option Value} {base : Heap} {f : Addr} {fd : FuncData} {ps : List Str} {s : SpecPP} (h : ∀ pl wl ds Q, ¬ s.S pl wl ds Q) : FnOk P w K mg base CX0 0 f fd ps (spPP K s) :=
  ⟨fun vs H Q E ⟨_, _, _, _, _, _, _, _, _, _, _, _, _, _, _, _, _, _, _, _, _, _, q⟩ => (h _ _ _ _ q).elim, fun A outer s0 H args us vs Q E hr he hb hv ⟨_, _, _, _, _, _, _, _, _, _, _, _, _, _, _, _, _, _, _, _, _, _, q⟩ => (h _ _ _ _ q).elim⟩
end DL
namespace DL
theorem flats_nil : flats [] := fun d h => by cases h
theorem flats_cons {d : D} {ds : List D} (h : flat d) (t : flats ds) : flats (d :: ds) := fun x hx => by
  rcases List.mem_cons.mp hx with z | z
  · subst z; exact h
  · exact t x z
end DL
set_option Elab.async false
set_option linter.all false
set_option autoImplicit false
set_option maxRecDepth 100000
set_option maxHeartbeats 4000000
/-! DL26: boxes: lists and instances that other things hold and that change. -/
namespace DL
open PySem PySem.Spec PyProof.Rows L2
def updB (L : Bxs) (p : Addr) (b : Bx) : Bxs := fun q => if q = p then some b else L q
def delB (L : Bxs) (p : Addr) : Bxs := fun q => if q = p then none else L q
theorem updB_same {L : Bxs} {p : Addr} {b : Bx} : updB L p b p = some b := if_pos rfl
theorem updB_ne {L : Bxs} {p q : Addr} {b : Bx} (h : q ≠ p) : updB L p b q = L q := if_neg h
theorem delB_same {L : Bxs} {p : Addr} : delB L p p = none := if_pos rfl
theorem delB_ne {L : Bxs} {p q : Addr} (h : q ≠ p) : delB L p q = L q := if_neg h
section
variable {K : PySem.W.Frag} {B : Bs} {S S' F H H' : Hp} {σ : L2.St} {γ : List Sl} {p : Addr} {o : HO} {φ : Nat → Hp} {i : Nat} {m : Bool} {L L' : Bxs} {b b0 : Bx}
theorem BxsOk.at_ (h : BxsOk S F L) (e : L p = some b) : ∃ o, F p = some o ∧ BxOk S (some o) (some b) := by
  have k := h.2 p
  rw [e] at k
  cases hF : F p with
  | none => rw [hF] at k; exact k.elim
  | some o => rw [hF] at k; exact ⟨o, rfl, k⟩
theorem BxsOk.none_ (h : BxsOk S F L) (e : F p = none) : L p = none := by
  have k := h.2 p
  cases hL : L p with
  | none => rfl
  | some b => rw [hL, e] at k; exact k.elim
theorem BxsOk.upd (h : BxsOk S F L) (hb : BxOk S (some o) (some b)) : BxsOk S (upd F p o) (updB L p b) := by
  obtain ⟨⟨ks, hk⟩, h⟩ := h
  refine ⟨⟨p :: ks, fun q hq => ?_⟩, fun q => ?_⟩
  · by_cases e : q = p
    · rw [e]; exact List.mem_cons_self ..
    · rw [updB_ne e] at hq; exact List.mem_cons_of_mem _ (hk q hq)
  · by_cases e : q = p
    · subst e; rw [upd_same, updB_same]; exact hb
    · rw [upd_ne e, updB_ne e]; exact h q
theorem BxsOk.del (h : BxsOk S F L) : BxsOk S (L2.del F p) (delB L p) := by
  obtain ⟨⟨ks, hk⟩, h⟩ := h
  refine ⟨⟨ks, fun q hq => ?_⟩, fun q => ?_⟩
  · by_cases e : q = p
    · subst e; rw [delB_same] at hq; exact (hq rfl).elim
    · rw [delB_ne e] at hq; exact hk q hq
  · by_cases e : q = p
    · subst e; rw [L2.del_same, delB_same]; trivial
    · rw [L2.del_ne e, delB_ne e]; exact h q
theorem BxsOk.mono (h : BxsOk S F L) (e : Same S S') : BxsOk S' F L := ⟨h.1, fun p => (h.2 p).mono e⟩
/-- slot i's part of the heap becomes F -/
theorem RelF.chgB (r : RelF K B S H σ γ φ) {s t : Sl} {u : HO} (hg : γ[i]? = some s) (hp : φ i p = some u) (ht : SlF K B S (upd (φ i) p o) σ[i]? t) (hm : t.may = s.may) (ha : ∀ i a, s.at_ B i a → t.at_ B i a) : Rel0 K B S (upd H p o) σ (γ.set i t) := by
  have hS := r.phS i _ _ hp
  have hO := r.phO i _ _ hp
  have em : ∀ {j a v}, (if j = i then L2.upd (φ i) p o else φ j) a = some v → (j = i ∧ a = p ∧ v = o) ∨ (φ j a = some v ∧ a ≠ p) := fun {j a v} e => by
    by_cases hj : j = i
    · rw [if_pos hj] at e
      by_cases ha : a = p
      · subst ha; rw [upd_same] at e; cases e; exact .inl ⟨hj, rfl, rfl⟩
      · rw [upd_ne ha] at e; subst hj; exact .inr ⟨e, ha⟩
    · rw [if_neg hj] at e; exact .inr ⟨e, fun z => by subst z; exact r.phD j i _ _ _ hj e hp⟩
  have em2 : ∀ {j a v}, (if j = i then L2.upd (φ i) p o else φ j) a = some v → ∃ w, φ j a = some w := fun {j a v} e => by
    rcases em e with ⟨z, z', _⟩ | ⟨z, _⟩
    · subst z z'; exact ⟨_, hp⟩
    · exact ⟨_, z⟩
  refine ⟨fun j => if j = i then L2.upd (φ i) p o else φ j, Same.updS r.same hS, fun a x e hm => ?_, fun a ha => ?_, r.grow, r.ext, by rw [List.length_set]; exact r.len, fun j t' e => ?_, fun j a v e => ?_, fun j a v e => ?_, fun j k a v w hjk e1 e2 => ?_, fun j a v e => ?_, fun q v hq => ?_, r.frn, r.spS⟩
  · rw [upd_ne (fun z => ?_)]
    · exact r.keep a x e hm
    · subst z
      obtain ⟨s', m, _, _, h | h⟩ := hO
      · exact hm (Sl.at_mem h.2)
      · rw [e] at h; cases h
  · obtain ⟨k1, k2, x, k3⟩ := r.muk a ha
    by_cases hap : a = p
    · subst hap; exact ⟨k1, k2, _, upd_same⟩
    · exact ⟨k1, k2, x, by rw [upd_ne hap]; exact k3⟩
  · rw [set_get hg] at e
    by_cases hj : j = i
    · rw [if_pos hj] at e
      cases e
      show SlF K B S (if j = i then L2.upd (φ i) p o else φ j) _ _
      rw [if_pos hj, hj]
      exact ht
    · rw [if_neg hj] at e
      show SlF K B S (if j = i then L2.upd (φ i) p o else φ j) _ _
      rw [if_neg hj]
      exact r.sl j t' e
  · rcases em e with ⟨_, z, z'⟩ | ⟨z, z'⟩
    · subst z z'; exact upd_same
    · rw [upd_ne z']; exact r.phH j a v z
  · obtain ⟨w, z⟩ := em2 e
    exact r.phS j a w z
  · obtain ⟨w1, z1⟩ := em2 e1
    obtain ⟨w2, z2⟩ := em2 e2
    exact r.phD j k a _ _ hjk z1 z2
  · obtain ⟨w, z⟩ := em2 e
    have q := r.phO j a w z
    by_cases hj : j = i
    · subst hj
      obtain ⟨s', m, e1, e2, e3⟩ := q
      rw [hg] at e1
      cases e1
      rw [set_get hg, if_pos rfl]
      exact ⟨t, m, rfl, hm.trans e2, e3.imp (fun z => ⟨z.1, ha _ _ z.2⟩) id⟩
    · rw [List.getElem?_set_ne (fun z => hj z.symm)]
      exact q
  · obtain ⟨k1, k2, k3, k4⟩ := r.frm q v hq
    have nq : q ≠ p := fun z => by subst z; rw [k4 i] at hp; cases hp
    refine ⟨by rw [upd_ne nq]; exact k1, k2, k3, fun j => ?_⟩
    show (if j = i then L2.upd (φ i) p o else φ j) q = none
    by_cases hj : j = i
    · rw [if_pos hj, upd_ne nq]; exact k4 i
    · rw [if_neg hj]; exact k4 j
/-- a box is changed -/
theorem Rel0.chgB (R : Rel0 K B S H σ γ) (hg : γ[i]? = some (.hp m L)) (hL : L p = some b0) (hb : BxOk S (some o) (some b)) : Rel0 K B S (upd H p o) σ (γ.set i (.hp m (updB L p b))) := by
  obtain ⟨φ, r⟩ := R
  have q : BxsOk S (φ i) L := r.sl i _ hg
  obtain ⟨u, hp, _⟩ := q.at_ hL
  exact r.chgB hg hp (q.upd hb) rfl (fun _ _ h => h)
/-- what is kept aside becomes a box -/
theorem Rel0.addB (R : Rel0 K (B.fram p o) S H σ γ) (hg : γ[i]? = some (.hp m L)) (hb : BxOk S (some o) (some b)) : Rel0 K B S H σ (γ.set i (.hp m (updB L p b))) ∧ L p = none := by
  obtain ⟨φ, r⟩ := R
  obtain ⟨h1, h2, h3, h4⟩ := r.frm p o (List.mem_cons_self ..)
  have n : ((p, o) :: B.fr |>.map (·.1)).Nodup := r.frn
  rw [List.map_cons] at n
  have q : BxsOk S (φ i) L := r.sl i _ hg
  have em : ∀ {j a u}, (if j = i then L2.upd (φ i) p o else φ j) a = some u → (j = i ∧ a = p ∧ u = o) ∨ (φ j a = some u) := fun {j a u} e => by
    by_cases hj : j = i
    · rw [if_pos hj] at e
      by_cases ha : a = p
      · subst ha; rw [upd_same] at e; cases e; exact .inl ⟨hj, rfl, rfl⟩
      · rw [upd_ne ha] at e; subst hj; exact .inr e
    · rw [if_neg hj] at e; exact .inr e
  refine ⟨⟨fun j => if j = i then L2.upd (φ i) p o else φ j, r.same, r.keep, r.muk, r.grow, r.ext, by rw [List.length_set]; exact r.len, fun j t e => ?_, fun j a u e => ?_, fun j a u e => ?_, fun j k a u v hjk e1 e2 => ?_, fun j a u e => ?_, fun q u hq => ?_, (List.nodup_cons.mp n).2, r.spS⟩, q.none_ (h4 i)⟩
  · rw [set_get hg] at e
    by_cases hj : j = i
    · rw [if_pos hj] at e
      cases e
      show SlF K B S (if j = i then L2.upd (φ i) p o else φ j) _ _
      rw [if_pos hj]
      exact q.upd hb
    · rw [if_neg hj] at e
      show SlF K B S (if j = i then L2.upd (φ i) p o else φ j) _ _
      rw [if_neg hj]
      exact r.sl j t e
  · rcases em e with ⟨_, z, z'⟩ | z
    · subst z z'; exact h1
    · exact r.phH j a u z
  · rcases em e with ⟨_, z, z'⟩ | z
    · subst z; exact h2
    · exact r.phS j a u z
  · rcases em e1 with ⟨z1, z2, _⟩ | z2
    · rcases em e2 with ⟨y1, _, _⟩ | y2
      · exact hjk (z1.trans y1.symm)
      · subst z2; rw [h4 k] at y2; cases y2
    · rcases em e2 with ⟨y1, y2, _⟩ | y2
      · subst y2; rw [h4 j] at z2; cases z2
      · exact r.phD j k a u v hjk z2 y2
  · rcases em e with ⟨z1, z2, _⟩ | z2
    · rw [z1, set_get hg, if_pos rfl, z2]
      exact ⟨_, m, rfl, rfl, .inr h3⟩
    · have qo := r.phO j a u z2
      by_cases hj : j = i
      · subst hj
        obtain ⟨s', m', e1, e2, e3⟩ := qo
        rw [hg] at e1
        cases e1
        rw [set_get hg, if_pos rfl]
        exact ⟨_, m', rfl, e2, e3⟩
      · rw [List.getElem?_set_ne (fun z => hj z.symm)]
        exact qo
  · obtain ⟨k1, k2, k3, k4⟩ := r.frm q u (List.mem_cons_of_mem _ hq)
    refine ⟨k1, k2, k3, fun j => ?_⟩
    show (if j = i then L2.upd (φ i) p o else φ j) q = none
    by_cases hj : j = i
    · rw [if_pos hj, upd_ne (fun z => (List.nodup_cons.mp n).1 (by subst z; exact List.mem_map.mpr ⟨_, hq, rfl⟩))]; exact k4 i
    · rw [if_neg hj]; exact k4 j
/-- a list of one's own in a box becomes a value -/
theorem Rel0.frzB (R : Rel0 K B S H σ γ) (hg : γ[i]? = some (.hp false L)) (hL : L p = some b) : ∃ o, H p = some o ∧ S p = none ∧ BxOk S (some o) (some b) ∧ Rel0 K B (upd S p o) H σ (γ.set i (.hp false (delB L p))) := by
  obtain ⟨φ, r⟩ := R
  have q : BxsOk S (φ i) L := r.sl i _ hg
  obtain ⟨o, hp, hb⟩ := q.at_ hL
  have hS := r.phS i _ _ hp
  have hH := r.phH i _ _ hp
  have h0 : B.H0 p = none := by
    obtain ⟨s', m', e1, e2, h | h⟩ := r.phO i _ _ hp
    · rw [hg] at e1; cases e1
      have e2 : some false = some m' := e2
      cases e2
      exact absurd h.1 (by decide)
    · exact h
  have eS : Same S (upd S p o) := Same.upd (Same.refl S) hS
  have em : ∀ {j a u}, (if j = i then L2.del (φ i) p else φ j) a = some u → φ j a = some u ∧ a ≠ p := fun {j a u} e => by
    by_cases hj : j = i
    · rw [if_pos hj] at e
      by_cases ha : a = p
      · subst ha; rw [L2.del_same] at e; cases e
      · rw [L2.del_ne ha] at e; subst hj; exact ⟨e, ha⟩
    · rw [if_neg hj] at e; exact ⟨e, fun z => by subst z; exact r.phD j i _ _ _ hj e hp⟩
  refine ⟨o, hH, hS, hb, fun j => if j = i then L2.del (φ i) p else φ j, Same.updL r.same hH, r.keep, r.muk, fun a x e => eS _ _ (r.grow a x e), fun a x e => ?_, by rw [List.length_set]; exact r.len, fun j t e => ?_, fun j a u e => r.phH j a u (em e).1, fun j a u e => ?_, fun j k a u v hjk e1 e2 => r.phD j k a u v hjk (em e1).1 (em e2).1, fun j a u e => ?_, fun a u hu => ?_, r.frn, r.spS⟩
  · by_cases ha : a = p
    · subst ha; exact .inr h0
    · rw [upd_ne ha] at e; exact r.ext a x e
  · rw [set_get hg] at e
    by_cases hj : j = i
    · rw [if_pos hj] at e
      cases e
      show SlF K B _ (if j = i then L2.del (φ i) p else φ j) _ _
      rw [if_pos hj]
      exact (q.del).mono eS
    · rw [if_neg hj] at e
      show SlF K B _ (if j = i then L2.del (φ i) p else φ j) _ _
      rw [if_neg hj]
      exact (r.sl j t e).mono eS
  · rw [upd_ne (em e).2]; exact r.phS j a u (em e).1
  · have qo := r.phO j a u (em e).1
    by_cases hj : j = i
    · subst hj
      obtain ⟨s', m', e1, e2, e3⟩ := qo
      rw [hg] at e1
      cases e1
      rw [set_get hg, if_pos rfl]
      exact ⟨_, m', rfl, e2, e3⟩
    · rw [List.getElem?_set_ne (fun z => hj z.symm)]
      exact qo
  · obtain ⟨k1, k2, k3, k4⟩ := r.frm a u hu
    refine ⟨k1, ?_, k3, fun j => ?_⟩
    · rw [upd_ne (fun z => by subst z; rw [k4 i] at hp; cases hp)]; exact k2
    · show (if j = i then L2.del (φ i) p else φ j) a = none
      by_cases hj : j = i
      · rw [if_pos hj]
        by_cases ha : a = p
        · subst ha; exact L2.del_same
        · rw [L2.del_ne ha]; exact k4 i
      · rw [if_neg hj]; exact k4 j
/-- the boxes behind a call -/
def BxsOut (S' H' : Hp) (L' : Bxs) (mu : List Addr) (H : Hp) : Prop := (∃ ks : List Addr, ∀ p, L' p ≠ none → p ∈ ks) ∧ ∀ p b, L' p = some b → S' p = none ∧ BxOk S' (H' p) (some b) ∧ (p ∈ mu ∨ H p = none)
/-- the part of the heap where boxes stand -/
def partB (L : Bxs) (H : Hp) : Hp := fun a => if (L a).isSome then H a else none
theorem partB_some {a : Addr} {o : HO} (h : partB L H a = some o) : H a = some o ∧ ∃ b, L a = some b := by
  unfold partB at h
  cases hL : L a with
  | none => rw [hL] at h; cases h
  | some b => rw [hL] at h; exact ⟨h, b, rfl⟩
theorem partB_ok (hf : ∃ ks : List Addr, ∀ p, L p ≠ none → p ∈ ks) (h : ∀ p b, L p = some b → BxOk S (H p) (some b)) : BxsOk S (partB L H) L := by
  refine ⟨hf, fun p => ?_⟩
  unfold partB
  cases hL : L p with
  | none => trivial
  | some b => exact h p b hL
/-- behind a call that may change the boxes -/
theorem Rel0.callB (R : Rel0 K B S H σ γ) (hg : γ[i]? = some (.hp m L)) {mu : List Addr} {SP : Hp} (hmu : ∀ a, a ∈ mu → L a ≠ none) (C : Rel0 K ⟨H, S, mu, [], SP⟩ S' H' [] []) (ho : BxsOut S' H' L' mu H) : Rel0 K B S' H' σ (γ.set i (.hp m L')) := by
  obtain ⟨φ, r⟩ := R
  have q : BxsOk S (φ i) L := r.sl i _ hg
  have mine : ∀ a, a ∈ mu → ∃ o, φ i a = some o := fun a ha => by
    cases hL : L a with
    | none => exact (hmu a ha hL).elim
    | some b => obtain ⟨o, e, _⟩ := q.at_ hL; exact ⟨o, e⟩
  have hk : ∀ a o, H a = some o → a ∉ mu → H' a = some o := fun a o e n => C.keep a o e n
  have hS : ∀ a o, H a = some o → S a = none → S' a = none := fun a o e n => by
    cases q : S' a with
    | none => rfl
    | some u =>
      rcases C.ext a u q with z | z
      · have z' : S a = some u := z
        rw [n] at z'; cases z'
      · have z' : H a = none := z
        rw [e] at z'; cases z'
  have other : ∀ {j a v}, j ≠ i → φ j a = some v → a ∉ mu := fun {j a v} hj e ha => by
    obtain ⟨o, e2⟩ := mine a ha
    exact r.phD j i _ _ _ hj e e2
  have em : ∀ {j a v}, (if j = i then partB L' H' else φ j) a = some v → (j = i ∧ H' a = some v ∧ ∃ b, L' a = some b) ∨ (j ≠ i ∧ φ j a = some v) := fun {j a v} e => by
    by_cases hj : j = i
    · rw [if_pos hj] at e; exact .inl ⟨hj, partB_some e⟩
    · rw [if_neg hj] at e; exact .inr ⟨hj, e⟩
  have newp : ∀ {a b}, L' a = some b → ∀ {j v}, j ≠ i → φ j a = some v → False := fun {a b} e {j v} hj e2 => by
    rcases (ho.2 a b e).2.2 with z | z
    · exact other hj e2 z
    · rw [r.phH j _ _ e2] at z; cases z
  have muk : ∀ a, a ∈ mu → ∃ o, H' a = some o := fun a ha => (C.muk a ha).2.2
  refine ⟨fun j => if j = i then partB L' H' else φ j, C.same, fun a x e hm => ?_, fun a ha => ?_, fun a x e => C.grow a x (r.grow a x e), fun a x e => ?_, by rw [List.length_set]; exact r.len, fun j t' e => ?_, fun j a v e => ?_, fun j a v e => ?_, fun j k a v w hjk e1 e2 => ?_, fun j a v e => ?_, fun q v hq => ?_, r.frn, r.spS⟩
  · refine hk a x (r.keep a x e hm) fun z => ?_
    obtain ⟨o, e2⟩ := mine a z
    obtain ⟨s', m', _, _, h | h⟩ := r.phO i _ _ e2
    · exact hm (Sl.at_mem h.2)
    · rw [e] at h; cases h
  · obtain ⟨f1, f2, x, f3⟩ := r.muk a ha
    by_cases hap : a ∈ mu
    · exact ⟨f1, f2, muk a hap⟩
    · exact ⟨f1, f2, x, hk a _ f3 hap⟩
  · rcases C.ext a x e with z | z
    · exact r.ext a x z
    · exact .inr (r.fresh0 z)
  · rw [set_get hg] at e
    by_cases hj : j = i
    · rw [if_pos hj] at e
      cases e
      show SlF K B S' (if j = i then partB L' H' else φ j) _ _
      rw [if_pos hj]
      exact partB_ok ho.1 fun p b e => (ho.2 p b e).2.1
    · rw [if_neg hj] at e
      show SlF K B S' (if j = i then partB L' H' else φ j) _ _
      rw [if_neg hj]
      exact (r.sl j t' e).mono C.grow
  · rcases em e with ⟨_, z, _⟩ | ⟨hj, z⟩
    · exact z
    · exact hk a v (r.phH j a v z) (other hj z)
  · rcases em e with ⟨_, z, b, hb⟩ | ⟨hj, z⟩
    · exact (ho.2 a b hb).1
    · exact hS a v (r.phH j a v z) (r.phS j a v z)
  · rcases em e1 with ⟨z1, _, b1, hb1⟩ | ⟨z1, z2⟩
    · rcases em e2 with ⟨y1, _, _⟩ | ⟨y1, y2⟩
      · exact hjk (z1.trans y1.symm)
      · exact newp hb1 y1 y2
    · rcases em e2 with ⟨y1, _, b2, hb2⟩ | ⟨y1, y2⟩
      · exact newp hb2 z1 z2
      · exact r.phD j k a v w hjk z2 y2
  · rcases em e with ⟨z1, z2, b, hb⟩ | ⟨z1, z2⟩
    · rw [z1, set_get hg, if_pos rfl]
      rcases (ho.2 a b hb).2.2 with z | z
      · obtain ⟨o, e2⟩ := mine a z
        obtain ⟨s', m', e1, e2, e3⟩ := r.phO i _ _ e2
        rw [hg] at e1
        cases e1
        exact ⟨_, m', rfl, e2, e3⟩
      · exact ⟨_, m, rfl, rfl, .inr (r.fresh0 z)⟩
    · rw [List.getElem?_set_ne (fun z => z1 z.symm)]
      exact r.phO j a v z2
  · obtain ⟨f1, f2, f3, f4⟩ := r.frm q v hq
    have nq : q ∉ mu := fun z => by obtain ⟨o, e⟩ := mine q z; rw [f4 i] at e; cases e
    refine ⟨hk q v f1 nq, hS q v f1 f2, f3, fun j => ?_⟩
    show (if j = i then partB L' H' else φ j) q = none
    by_cases hj : j = i
    · rw [if_pos hj]
      cases e : partB L' H' q with
      | none => rfl
      | some o =>
        obtain ⟨_, b, hb⟩ := partB_some e
        rcases (ho.2 q b hb).2.2 with z | z
        · exact (nq z).elim
        · rw [f1] at z; cases z
    · rw [if_neg hj]; exact f4 j
end
end DL
set_option Elab.async false
set_option linter.all false
set_option autoImplicit false
set_option maxRecDepth 100000
set_option maxHeartbeats 4000000
/-! DL27: boxes: reading, changing, promises of defs that change boxes. -/
namespace DL
open PySem PySem.Spec PyProof.Rows L2
section
variable {X : Xb} {B : Bs} {S S' F H H' : Hp} {σ : L2.St} {γ : List Sl} {p : Addr} {o : HO} {i : Nat} {m : Bool} {L L' : Bxs} {b b0 : Bx}
theorem Rel.boxAt (R : Rel X B S H σ γ) (hg : γ[i]? = some (.hp m L)) (hL : L p = some b) : S p = none ∧ BxOk S (H p) (some b) := R.sl i _ hg p b hL
theorem Rel.boxL {ds : List D} (R : Rel X B S H σ γ) (hg : γ[i]? = some (.hp m L)) (hL : L p = some (.lst ds)) : ∃ xs, H p = some (.lst xs) ∧ DenL S xs ds := by
  obtain ⟨_, h⟩ := R.boxAt hg hL
  cases e : H p with
  | none => rw [e] at h; exact h.elim
  | some o => rw [e] at h; obtain ⟨xs, rfl, h2⟩ := h; exact ⟨xs, rfl, h2⟩
theorem Rel.boxI {C : Addr} {fs : List (Str × D)} (R : Rel X B S H σ γ) (hg : γ[i]? = some (.hp m L)) (hL : L p = some (.ins C fs)) : ∃ dx vs, H p = some (.ins C dx vs) ∧ DenF S vs fs := by
  obtain ⟨_, h⟩ := R.boxAt hg hL
  cases e : H p with
  | none => rw [e] at h; exact h.elim
  | some o => rw [e] at h; obtain ⟨dx, vs, rfl, h2⟩ := h; exact ⟨dx, vs, rfl, h2⟩
theorem Rel.chgL {xs : List V} {ds : List D} (R : Rel X B S H σ γ) (hg : γ[i]? = some (.hp m L)) (hL : L p = some b0) (hd : DenL S xs ds) : Rel X B S (upd H p (.lst xs)) σ (γ.set i (.hp m (updB L p (.lst ds)))) :=
  ⟨R.r.chgB hg hL ⟨xs, rfl, hd⟩, R.x⟩
theorem Rel.chgO {C dx : Addr} {vs : List (Str × V)} {fs : List (Str × D)} (R : Rel X B S H σ γ) (hg : γ[i]? = some (.hp m L)) (hL : L p = some b0) (hd : DenF S vs fs) : Rel X B S (upd H p (.ins C dx vs)) σ (γ.set i (.hp m (updB L p (.ins C fs)))) :=
  ⟨R.r.chgB hg hL ⟨dx, vs, rfl, hd⟩, R.x⟩
theorem Rel.addB (R : Rel X (B.fram p o) S H σ γ) (hg : γ[i]? = some (.hp m L)) (hb : BxOk S (some o) (some b)) : Rel X B S H σ (γ.set i (.hp m (updB L p b))) ∧ L p = none :=
  ⟨⟨(R.r.addB hg hb).1, R.x⟩, (R.r.addB hg hb).2⟩
theorem Rel.callB (R : Rel X B S H σ γ) (hg : γ[i]? = some (.hp m L)) {mu : List Addr} {SP : Hp} (hmu : ∀ a, a ∈ mu → L a ≠ none) (C : Rel0 X.K ⟨H, S, mu, [], SP⟩ S' H' [] []) (ho : BxsOut S' H' L' mu H) : Rel X B S' H' σ (γ.set i (.hp m L')) :=
  ⟨R.r.callB hg hmu C ho, R.x.mono C.grow⟩
end
section
variable {X : Xb} {K : PySem.W.Frag} {a b c e o : Expr} {es : List Expr} {ta tb tc te to : TE} {wa wb wc we wo : WE} {t : TA} {w : WA} {pos p p1 p2 : Pos} {f : Str}
/-- x.f, x an instance in a box -/
def dFldB (K : PySem.W.Frag) (h : Nat) (f : Str) (wa : WE) : WE := fun γ Q => wa γ fun x γ1 => ∃ m L q C fs d, x = .ref q ∧ γ1[h]? = some (.hp m L) ∧ L q = some (.ins C fs) ∧ (Cls K C ∧ NoAttr K C f) ∧ fs.lookup f = some d ∧ Q d γ1
/-- x.f = e, x an instance in a box -/
def dPutB (K : PySem.W.Frag) (h : Nat) (f : Str) (wo we : WE) : WS := fun Dd γ => we γ fun d γ1 => wo γ1 fun x γ2 => ∃ m L q C fs, x = .ref q ∧ γ2[h]? = some (.hp m L) ∧ L q = some (.ins C fs) ∧ (Cls K C ∧ NoAttr K C f) ∧ fs.length < 1000 ∧ Dd.nx (γ2.set h (.hp m (updB L q (.ins C (putD f d fs)))))
theorem ds_putB (K' : PySem.W.Frag) (h : Nat) {f : Str} {pa : Pos} (ho : DE X o to wo) (he : DE X e te we)
    (hs : swapsWith e (some (.Attribute o f pa)) pos.line X.env = pure false := by rfl) (hK : X.K = K' := by rfl) : DS X (.Assign [.Attribute o f pa] e pos) (sFld K' to te f) (dPutB K' h f wo we) := by
  subst hK
  refine ⟨ps_fld ho.pe he.pe hs, ⟨fun B S0 S H σ γ Dd D R e L q => ?_⟩⟩
  refine he.se.run B S H σ γ _ R (he.se.mono γ _ _ (fun d γ1 q v S1 H1 R1 e1 d1 => ?_) q)
  refine ho.se.run B S1 H1 σ γ1 _ R1 (ho.se.mono γ1 _ _ (fun x γ2 ⟨m, Lb, q, C, fs, ex, g, l, c, hl, q'⟩ u S2 H2 R2 e2 d2 => ?_) q)
  subst ex
  cases d2
  obtain ⟨dx, vs, h1, h2⟩ := R2.boxI g l
  exact ⟨q, C, dx, vs, rfl, h1, c.1, c.2, by rw [h2.1]; exact hl, L.nx S2 _ σ _ (e.trans (e1.trans e2)) (R2.chgO g l (h2.put (d1.mono e2))) q'⟩
/-- o.append(e), o a list in a box -/
def dAppB (h : Nat) (wo we : WE) : WS := fun Dd γ => wo γ fun x γ1 => (∃ m L q ds, x = .ref q ∧ γ1[h]? = some (.hp m L) ∧ L q = some (.lst ds)) ∧ we γ1 fun d γ2 => ∃ m L q ds, x = .ref q ∧ γ2[h]? = some (.hp m L) ∧ L q = some (.lst ds) ∧ ds.length < sizeLine ∧ Dd.nx (γ2.set h (.hp m (updB L q (.lst (ds ++ [d])))))
theorem ds_appB (h : Nat) (hpe : PE X o to → PE X e te → PE X (.Call (.Attribute o "append" p1) [e] [] p2) (tBM X.K "list" rAppend to (tCons te tNil))) (ho : DE X o to wo) (he : DE X e te we)
    (hs : swapsWith (.Call (.Attribute o "append" p1) [e] [] p2) none pos.line X.env = pure false := by rfl) : DS X (.Expr (.Call (.Attribute o "append" p1) [e] [] p2) pos) (tDrop (tBM X.K "list" rAppend to (tCons te tNil))) (dAppB h wo we) :=
  ⟨ps_expr (hpe ho.pe he.pe) hs, ⟨fun B S0 S H σ γ Dd D R e L q => by
    refine ho.se.run B S H σ γ _ R (ho.se.mono γ _ _ (fun x γ1 q v S1 H1 R1 e1 d1 => ?_) q)
    obtain ⟨⟨m0, L0, q0, ds0, ex0, g0, l0⟩, q⟩ := q
    subst ex0
    cases d1
    obtain ⟨xs0, h0, _⟩ := R1.boxL g0 l0
    refine ⟨.inl ⟨rfl, _, SqL.of h0⟩, ?_⟩
    refine he.se.run B S1 H1 σ γ1 _ R1 (he.se.mono γ1 _ _ (fun d γ2 ⟨m, Lb, q, ds, ex, g, l, hz, q'⟩ v S2 H2 R2 e2 d2 => ?_) q)
    cases ex
    obtain ⟨xs, h1, h2⟩ := R2.boxL g l
    exact ⟨q0, xs, v, rfl, rfl, h1, by rw [h2.1]; exact hz, L.nx S2 _ σ _ (e.trans (e1.trans e2)) (R2.chgL g l (h2.snoc d2)) q'⟩⟩⟩
/-- o.pop(), o a list in a box -/
def dPopB (h : Nat) (wo : WE) : WE := fun γ Q => wo γ fun x γ1 => ∃ m L q ds d, x = .ref q ∧ γ1[h]? = some (.hp m L) ∧ L q = some (.lst (ds ++ [d])) ∧ Q d (γ1.set h (.hp m (updB L q (.lst ds))))
end
end DL
set_option Elab.async false
set_option linter.all false
set_option autoImplicit false
set_option maxRecDepth 100000
set_option maxHeartbeats 4000000
/-! DL28: boxes: len, items, new ones, freezing; promises of defs that change boxes; their calls. -/
namespace DL
open PySem PySem.Spec PyProof.Rows L2
theorem Den.ref_inv {S : Hp} {v : V} {q : Addr} (h : Den S v (.ref q)) : v = .ref q := by
  cases h with
  | ref p => rfl
section
variable {X : Xb} {K : PySem.W.Frag} {a b c e o : Expr} {es : List Expr} {ta tb tc te to : TE} {wa wb wc we wo : WE} {t : TA} {w : WA} {pos p p1 p2 px : Pos} {f x : Str}
/-- len(o), o a list in a box -/
def dLenB (h : Nat) (w : WA) : WE := fun γ Q => w γ fun ds γ1 => ∃ m L q es, ds = [.ref q] ∧ γ1[h]? = some (.hp m L) ∧ L q = some (.lst es) ∧ Q (.int es.length) γ1
/-- o[e], o a list in a box -/
def dIxB (h : Nat) (wa wb : WE) : WE := fun γ Q => wa γ fun x γ1 => wb γ1 fun y γ2 => ∃ m L q es k d, x = .ref q ∧ y = .int k ∧ γ2[h]? = some (.hp m L) ∧ L q = some (.lst es) ∧ atI es k = some d ∧ Q d γ2
theorem de_ixB (K' : PySem.W.Frag) (h : Nat) (ha : DE X a ta wa) (hb : DE X b tb wb) (hs : PlainIx b := by exact fun _ _ => rfl) (hK : X.K = K' := by rfl) : DE X (.Subscript a b pos) (tOp (rIxLT K') ta tb) (dIxB h wa wb) := by
  subst hK
  refine ⟨pe_ix ix_LT ha.pe hb.pe hs, fun γ P P' k q => ha.se.mono γ _ _ (fun x γ1 q => hb.se.mono γ1 _ _ (fun y γ2 ⟨m, L, q, es, n, d, e1, e2, g, l, e3, q'⟩ => ⟨m, L, q, es, n, d, e1, e2, g, l, e3, k _ _ q'⟩) q) q, fun B S H σ γ Q R q => ?_⟩
  refine ha.se.run B S H σ γ _ R (ha.se.mono γ _ _ (fun x γ1 q v S1 H1 R1 e1 d1 => ?_) q)
  refine hb.se.run B S1 H1 σ γ1 _ R1 (hb.se.mono γ1 _ _ (fun y γ2 ⟨m, L, q0, es, n, d, f1, f2, g, l, f3, q'⟩ u S2 H2 R2 e2 d2 => ?_) q)
  subst f1 f2
  obtain rfl := d1.ref_inv
  cases d2
  obtain ⟨xs, h1, h2⟩ := R2.boxL g l
  obtain ⟨z, g6, g7⟩ := h2.atI f3
  exact .inl ⟨q0, xs, n, z, rfl, rfl, SqL.of h1, g6, q' z S2 H2 R2 (e1.trans e2) g7⟩
/-- a new list, put into a box -/
def dNewB (h : Nat) (wf : WF) : WE := fun γ Q => wf γ fun ds γ1 => ∃ m L, γ1[h]? = some (.hp m L) ∧ ∀ p, L p = none → Q (.ref p) (γ1.set h (.hp m (updB L p (.lst ds))))
theorem de_newB (h : Nat) {wf : WF} (hf : DF X e te wf) : DE X e te (dNewB h wf) := by
  refine ⟨hf.pe, fun γ P P' k q => hf.sf.mono γ _ _ (fun ds γ1 ⟨m, L, g, q'⟩ => ⟨m, L, g, fun p hp => k _ _ (q' p hp)⟩) q, fun B S H σ γ Q R q => ?_⟩
  refine hf.sf.run B S H σ γ _ R (hf.sf.mono γ _ _ (fun ds γ1 ⟨m, L, g, q'⟩ p xs S1 H1 R1 e1 d1 => ?_) q)
  obtain ⟨R2, hp⟩ := R1.addB (b := .lst ds) g ⟨xs, rfl, d1⟩
  exact q' p hp (.ref p) S1 H1 R2 e1 (.ref p)
/-- a list in a box, from here on a value; no box of a caller is in sight -/
def dFrzB (h : Nat) (wa : WE) : WE := fun γ Q => wa γ fun x γ1 => ∃ L q es, x = .ref q ∧ γ1[h]? = some (.hp false L) ∧ L q = some (.lst es) ∧ Q (.lst es) (γ1.set h (.hp false (delB L q)))
end
/-! ### promises -/
structure SpecB where
  S : List D → Bxs → (D → Bxs → Prop) → Prop
  mono : ∀ ds L P P', (∀ d L', P d L' → P' d L') → S ds L P → S ds L P'
def spB (K : PySem.W.Frag) (s : SpecB) : Sp := fun vs H Q _ => ∃ S mu L ds, Same S H ∧ (∀ a, a ∈ mu ↔ L a ≠ none) ∧ (∀ p b, L p = some b → S p = none ∧ BxOk S (H p) (some b)) ∧ DenL S vs ds ∧
  s.S ds L fun d L' => ∀ v S' H', Rel0 K ⟨H, S, mu, [], emptyH⟩ S' H' [] [] → BxsOut S' H' L' mu H → Den S' v d → Q v H'
theorem keysB {L : Bxs} (h : ∃ ks : List Addr, ∀ p, L p ≠ none → p ∈ ks) : ∃ mu : List Addr, ∀ a, a ∈ mu ↔ L a ≠ none := by
  obtain ⟨ks, hk⟩ := h
  refine ⟨ks.filter fun a => (L a).isSome, fun a => ?_⟩
  rw [List.mem_filter]
  constructor
  · intro h z
    rw [z] at h
    exact absurd h.2 (by decide)
  · intro h
    refine ⟨hk a h, ?_⟩
    cases e : L a with
    | none => exact (h e).elim
    | some b => rfl
theorem Rel.finB {X : Xb} {B : Bs} {S H : Hp} {σ : L2.St} {γ : List Sl} {i : Nat} {m : Bool} {L : Bxs} (R : Rel X B S H σ γ) (hg : γ[i]? = some (.hp m L)) : ∃ ks : List Addr, ∀ p, L p ≠ none → p ∈ ks := by
  obtain ⟨φ, r⟩ := R.r
  have q : BxsOk S (φ i) L := r.sl i _ hg
  exact q.1
section
variable {X : Xb} {K : PySem.W.Frag} {C f : Addr} {fd : FuncData} {ps : List Str} {k : Nat} {x m : Str} {e o : Expr} {es : List Expr} {t : TA} {w : WA} {ta : TE} {wa : WE} {p pos apos : Pos} {s : SpecB} {pl : Sem Bool}
def dCallBx (h : Nat) (s : SpecB) (w : WA) : WE := fun γ Q => w γ fun ds γ1 => ∃ m L, γ1[h]? = some (.hp m L) ∧ s.S ds L fun d L' => Q d (γ1.set h (.hp m L'))
theorem run_spB {B : Bs} {S H : Hp} {σ : L2.St} {γ : List Sl} {h : Nat} {m : Bool} {L : Bxs} {vs : List V} {ds : List D} {Q : VK} (R : Rel X B S H σ γ) (g : γ[h]? = some (.hp m L)) (hd : DenL S vs ds)
    (q : s.S ds L fun d L' => ∀ v S' H', Rel X B S' H' σ (γ.set h (.hp m L')) → Same S S' → Den S' v d → Q v H') : spB X.K s vs H Q E0 := by
  obtain ⟨mu, hmu⟩ := keysB (R.finB g)
  refine ⟨S, mu, L, ds, R.same, hmu, fun p b hb => R.boxAt g hb, hd, s.mono _ _ _ _ (fun d L' q v S' H' C' ho dn => ?_) q⟩
  exact q v S' H' (R.callB g (fun a ha => (hmu a).mp ha) C' ho) C'.grow dn
theorem se_callBx {h : Nat} (ha : SA X t w) : SE X (tCall (spB X.K s) [] E0 t) (dCallBx h s w) := by
  refine ⟨fun γ P P' k q => ha.mono γ _ _ (fun ds γ1 ⟨m, L, g, q⟩ => ⟨m, L, g, s.mono _ _ _ _ (fun d L' q => k _ _ q) q⟩) q, fun B S H σ γ Q R q => ?_⟩
  refine ha.run B S H σ γ _ R (ha.mono γ _ _ (fun ds γ1 ⟨m, L, g, q⟩ vs S1 H1 R1 e1 d1 => ?_) q)
  rw [List.append_nil]
  exact run_spB R1 g d1 (s.mono _ _ _ _ (fun d L' q v S' H' R' e' dn => q v S' H' R' (e1.trans e') dn) q)
/-- a call of a def that may change boxes -/
theorem de_callBx (K' : PySem.W.Frag) (h : Nat) (F : FnOk X.prog X.w X.K X.mg X.base CX0 k f fd ps (spB K' s)) (hr : Room k X.A) (hm : X.mg x = some (.ref f)) (hk : PySem.W.keepIn X.K (.ref f) = true) (hb : Binds X.K fd ps []) (ha : DA X (e :: es) t w) (hg : Gl X x := by rfl)
    (hdb : (x == ("__debug__" : Str)) = false := by decide) (he : starEach (e :: es) X.env = (false, eval e X.env) :: starEach es X.env := by rfl) (hpl : (backTo pos (starEach es X.env)).any (·.1) = false := by rfl) (hK : X.K = K' := by rfl) : DE X (.Call (.Name x p) (e :: es) [] pos) (tCall (spB K' s) [] E0 t) (dCallBx h s w) := by
  subst hK
  exact ⟨pe_call F hr hg hm hk hb .nil pass0 ha.pa hdb he hpl, se_callBx ha.sa⟩
/-- a method of an instance in a box -/
def dMethB (h : Nat) (C : Addr) (m : Str) (s : SpecB) (wa : WE) (w : WA) : WE := fun γ Q => wa γ fun x γ1 => ∃ mm L q fs, x = .ref q ∧ γ1[h]? = some (.hp mm L) ∧ L q = some (.ins C fs) ∧ fs.lookup m = none ∧ w γ1 fun ds γ2 => ∃ mm L, γ2[h]? = some (.hp mm L) ∧ s.S (.ref q :: ds) L fun d L' => Q d (γ2.set h (.hp mm L'))
/-- a new instance, put into a box -/
def dMakeB (h : Nat) (C : Addr) (s : SpecB) (w : WA) : WE := fun γ Q => w γ fun ds γ1 => ∃ m L, γ1[h]? = some (.hp m L) ∧ ∀ p, L p = none → s.S (.ref p :: ds) (updB L p (.ins C [])) fun d L' => d = .non ∧ Q (.ref p) (γ1.set h (.hp m L'))
theorem se_makeB {h : Nat} (hh : SA X t w) : SE X (tMake C (spB X.K s) [] E0 t) (dMakeB h C s w) := by
  refine ⟨fun γ P P' k q => hh.mono γ _ _ (fun ds γ1 ⟨m, L, g, q⟩ => ⟨m, L, g, fun p hp => s.mono _ _ _ _ (fun d L' q => ⟨q.1, k _ _ q.2⟩) (q p hp)⟩) q, fun B S H σ γ Q R q => ?_⟩
  refine hh.run B S H σ γ _ R (hh.mono γ _ _ (fun ds γ1 ⟨m, L, g, q⟩ vs S1 H1 R1 e1 d1 x dx hx hdx ne => ?_) q)
  rw [List.append_nil]
  have R2 := R1.newOut (o := .own x) hdx
  have hx2 : upd H1 dx (.own x) x = none := by rw [upd_ne (fun z => ne z.symm)]; exact hx
  have R3 := R2.newF (o := .ins C dx []) hx2
  obtain ⟨R4, hp⟩ := R3.addB (b := .ins C []) g ⟨dx, [], rfl, .nil⟩
  have hlt := R1.lt g
  have g4 : (γ1.set h (.hp m (updB L x (.ins C []))))[h]? = some (.hp m (updB L x (.ins C []))) := by rw [List.getElem?_set_self hlt]
  refine run_spB R4 g4 (.cons (.ref x) d1) (s.mono _ _ _ _ (fun d L' q v S' H' R' e' dn => ?_) (q x hp))
  obtain ⟨rfl, q⟩ := q
  cases dn
  rw [List.set_set] at R'
  exact ⟨rfl, q (.ref x) S' H' R' (e1.trans e') (.ref x)⟩
theorem de_makeB (K' : PySem.W.Frag) (h : Nat) (M : Mk X.K C f) (F : FnOk X.prog X.w X.K X.mg X.base CX0 k f fd ps (spB K' s)) (hr : Room (k + 1) X.A) (hm : X.mg x = some (.ref C)) (hb : Binds X.K fd ps []) (ha : DA X (e :: es) t w) (hg : Gl X x := by rfl)
    (hdb : (x == ("__debug__" : Str)) = false := by decide) (he : starEach (e :: es) X.env = (false, eval e X.env) :: starEach es X.env := by rfl) (hpl : (backTo pos (starEach es X.env)).any (·.1) = false := by rfl) (hK : X.K = K' := by rfl) :
    DE X (.Call (.Name x p) (e :: es) [] pos) (tMake C (spB K' s) [] E0 t) (dMakeB h C s w) := by
  subst hK
  exact ⟨pe_make M F hr hg hm hb .nil pass0 ha.pa hdb he hpl, se_makeB ha.sa⟩
end
/-- the slots of a def that may change boxes: at the end of the names stands a name that no code has -/
def gamB (N : List Str) (ds : List D) (L : Bxs) : List Sl := (gam N ds).set (N.length - 1) (.hp true L)
section
variable {P : Program} {w : World} {K : PySem.W.Frag} {mg : Str → Option Value} {base : Heap} {x qual : Str} {st : Stmt} {f : Addr} {fd : FuncData} {N ps : List Str} {k : Nat}
theorem start_relB {H S : Hp} {vs : List V} {ds : List D} {mu : List Addr} {L : Bxs} (e : Same S H) (hmu : ∀ a, a ∈ mu ↔ L a ≠ none) (hL : ∀ p b, L p = some b → S p = none ∧ BxOk S (H p) (some b)) (hd : DenL S vs ds) (hl : ds.length < N.length) : Rel0 K ⟨H, S, mu, [], emptyH⟩ S H (L2.start N vs) (gamB N ds L) := by
  obtain ⟨φ, r⟩ := start_rel (K := K) (N := N) e hd
  have hlen : N.length - 1 < (gam N ds).length := by unfold gam; rw [List.length_append, List.length_map, List.length_replicate]; omega
  have sp : ∀ {i s F}, (gam N ds)[i]? = some s → SlF K ⟨H, S, mu, [], emptyH⟩ S F (L2.start N vs)[i]? s := fun {i s F} h => by
    have hm := gam_may h
    have q := r.sl i s h
    cases s with
    | any => trivial
    | val d => exact q
    | scr ns => exact q
    | own m ds => cases hm
    | ins m C fs => cases hm
    | hp m L => cases hm
  have there : ∀ {a}, a ∈ mu → ∃ o, H a = some o := fun {a} ha => by
    cases hb : L a with
    | none => exact ((hmu a).mp ha hb).elim
    | some b =>
      have := (hL a b hb).2
      cases hH : H a with
      | none => rw [hH] at this; exact this.elim
      | some o => exact ⟨o, rfl⟩
  have em : ∀ {j a v}, (if j = N.length - 1 then partB L H else emptyH) a = some v → j = N.length - 1 ∧ H a = some v ∧ ∃ b, L a = some b := fun {j a v} e => by
    by_cases hj : j = N.length - 1
    · rw [if_pos hj] at e; exact ⟨hj, partB_some e⟩
    · rw [if_neg hj] at e; cases e
  refine ⟨fun j => if j = N.length - 1 then partB L H else emptyH, e, fun a o h _ => h, fun a ha => ?_, Same.refl S, fun a o h => .inl h, by unfold gamB; rw [List.length_set]; exact r.len, fun i s h => ?_, fun i a o e => (em e).2.1, fun i a o e => let ⟨_, _, b, hb⟩ := em e; (hL a b hb).1, fun i j a o u hij e1 e2 => hij ((em e1).1.trans (em e2).1.symm), fun i a o e => ?_, fun p o hp => (by cases hp), List.nodup_nil, fun a o e => (by cases e)⟩
  · obtain ⟨o, ho⟩ := there ha
    refine ⟨?_, ⟨o, ho⟩, o, ho⟩
    cases hb : L a with
    | none => exact ((hmu a).mp ha hb).elim
    | some b => exact (hL a b hb).1
  · unfold gamB at h
    by_cases hi : i = N.length - 1
    · subst hi
      rw [List.getElem?_set_self hlen] at h
      cases h
      show SlF K _ S (if N.length - 1 = N.length - 1 then partB L H else emptyH) _ _
      rw [if_pos rfl]
      exact partB_ok ⟨mu, fun p hp => (hmu p).mpr hp⟩ fun p b e => (hL p b e).2
    · rw [List.getElem?_set_ne (fun z => hi z.symm)] at h
      exact sp h
  · obtain ⟨z, _, b, hb⟩ := em e
    subst z
    unfold gamB
    rw [List.getElem?_set_self hlen]
    exact ⟨_, true, rfl, rfl, .inl ⟨rfl, (hmu a).mpr (by rw [hb]; exact fun z => by cases z)⟩⟩
theorem endB {H S S' H' : Hp} {σ : L2.St} {γ : List Sl} {mu : List Addr} {L' : Bxs} {i : Nat} {X : Xb} (R : Rel X ⟨H, S, mu, [], emptyH⟩ S' H' σ γ) (g : γ[i]? = some (.hp true L')) : BxsOut S' H' L' mu H := by
  refine ⟨R.finB g, fun p b hb => ?_⟩
  obtain ⟨h1, h2⟩ := R.boxAt g hb
  refine ⟨h1, h2, ?_⟩
  obtain ⟨φ, r⟩ := R.r
  have q : BxsOk S' (φ i) L' := r.sl i _ g
  obtain ⟨o, e, _⟩ := q.at_ hb
  obtain ⟨s', m, e1, e2, e3⟩ := r.phO i _ _ e
  rw [g] at e1
  cases e1
  exact e3.imp (fun z => z.2) id
/-- THE RULE for a def that may change boxes -/
theorem fn_okB {s : SpecB} (F : Fun K x qual st f fd) (Sc : FnScope N ps (defScope st)) (hN : ps.length < N.length) (len : ∀ ds L Q, s.S ds L Q → ds.length = ps.length)
    (hbody : ∀ (cdv : Value) (A : Around) (outer : List Env) (s0 : Shared) (H : Hp) (E : XK), Room k (A.deeper (envOfC qual (defScope st) s0.heap.objs.size f cdv)) →
      ∃ t w', DSs (Xb.of (cxOf CX0 P w K mg base N qual (defScope st) f cdv A outer s0 H E).nox) (defBody st) t w' ∧ ∀ ds L Q, s.S ds L Q → w' { nx := fun γ => ∃ L', γ[N.length - 1]? = some (.hp true L') ∧ Q .non L', rt := fun r γ => ∃ d L', r = .d d ∧ γ[N.length - 1]? = some (.hp true L') ∧ Q d L' } (gamB N ds L)) : FnOk P w K mg base CX0 (k + 1) f fd ps (spB K s) := by
  refine F.ok Sc (fun vs H Q E h => ?_) (fun cdv A outer s0 H vs Q E hr h => ?_)
  · obtain ⟨S, mu, L, ds, e, hmu, hL, hd, q⟩ := h
    rw [hd.1]
    exact len _ _ _ q
  · obtain ⟨S, mu, L, ds, e, hmu, hL, hd, q⟩ := h
    obtain ⟨t, w', h1, h2⟩ := hbody cdv A outer s0 H E hr
    refine ⟨t, h1.ps, ?_⟩
    have hl : ds.length < N.length := by rw [len _ _ _ q]; exact hN
    exact h1.ss.run ⟨H, S, mu, [], emptyH⟩ S S H (L2.start N vs) (gamB N ds L) { nx := fun γ => ∃ L', γ[N.length - 1]? = some (.hp true L') ∧ _, rt := fun r γ => ∃ d L', r = .d d ∧ γ[N.length - 1]? = some (.hp true L') ∧ _ } _ (Rel0.of (start_relB e hmu hL hd hl)) (Same.refl S) ⟨fun S' H' σ' γ' _ R ⟨L', g, q⟩ => q _ _ _ R.nil (endB R g) .non, fun S' H' σ' γ' v r _ R rv ⟨d, L', er, g, q⟩ => by
        subst er
        exact q v _ _ R.nil (endB R g) rv, fun S' H' σ' γ' _ R q => q.elim, fun S' H' σ' γ' _ R q => q.elim⟩ (h2 ds L _ q)
end
end DL
set_option Elab.async false
set_option linter.all false
set_option autoImplicit false
set_option maxRecDepth 100000
set_option maxHeartbeats 4000000
/-! DL29: boxes: their beginning in a def; += of attributes; items set; steps. -/
namespace DL
open PySem PySem.Spec PyProof.Rows L2
section
variable {K : PySem.W.Frag} {B : Bs} {S S' F H H' : Hp} {σ : L2.St} {γ : List Sl} {φ : Nat → Hp} {i : Nat}
/-- no boxes as yet -/
theorem Rel0.initB (R : Rel0 K B S H σ γ) : Rel0 K B S H σ (γ.set i (.hp false (fun _ => none))) := by
  obtain ⟨φ, r⟩ := R
  have em : ∀ {j a u}, (if j = i then emptyH else φ j) a = some u → j ≠ i ∧ φ j a = some u := fun {j a u} e => by
    by_cases hj : j = i
    · rw [if_pos hj] at e; cases e
    · rw [if_neg hj] at e; exact ⟨hj, e⟩
  refine ⟨fun j => if j = i then emptyH else φ j, r.same, r.keep, r.muk, r.grow, r.ext, by rw [List.length_set]; exact r.len, fun j t e => ?_, fun j a u e => r.phH j a u (em e).2, fun j a u e => r.phS j a u (em e).2, fun j k a u v hjk e1 e2 => r.phD j k a u v hjk (em e1).2 (em e2).2, fun j a u e => ?_, fun q u hq => ?_, r.frn, r.spS⟩
  · by_cases hj : j = i
    · subst hj
      by_cases hl : j < γ.length
      · rw [List.getElem?_set_self hl] at e
        cases e
        show SlF K B S (if j = j then emptyH else φ j) _ _
        rw [if_pos rfl]
        exact ⟨⟨[], fun p hp => (hp rfl).elim⟩, fun p => trivial⟩
      · rw [List.getElem?_eq_none (by rw [List.length_set]; omega)] at e
        cases e
    · rw [List.getElem?_set_ne (fun z => hj z.symm)] at e
      show SlF K B S (if j = i then emptyH else φ j) _ _
      rw [if_neg hj]
      exact r.sl j t e
  · obtain ⟨h1, h2⟩ := em e
    rw [List.getElem?_set_ne (fun z => h1 z.symm)]
    exact r.phO j a u h2
  · obtain ⟨k1, k2, k3, k4⟩ := r.frm q u hq
    refine ⟨k1, k2, k3, fun j => ?_⟩
    show (if j = i then emptyH else φ j) q = none
    by_cases hj : j = i
    · rw [if_pos hj]; rfl
    · rw [if_neg hj]; exact k4 j
end
/-- ahead of a def's code: no boxes as yet -/
def dInitB (i : Nat) (w : WS) : WS := fun Dd γ => w Dd (γ.set i (.hp false (fun _ => none)))
theorem dss_initB {X : Xb} (i : Nat) {sts : List Stmt} {t : TS} {w : WS} (h : DSs X sts t w) : DSs X sts t (dInitB i w) := ⟨h.ps, ⟨fun B S0 S H σ γ Dd D R e L q => h.ss.run B S0 S H σ _ Dd D ⟨R.r.initB, R.x⟩ e L q⟩⟩
theorem i_initB {i : Nat} {γ : List Sl} {w : WS} {Dd : EndsD} (q : w Dd (γ.set i (.hp false (fun _ => none)))) : dInitB i w Dd γ := q
section
variable {X : Xb} {K : PySem.W.Frag} {a b c e o : Expr} {es : List Expr} {ta tb tc te to tk : TE} {wa wb wc we wo wk : WE} {t : TA} {w : WA} {pos p p1 p2 px tpos : Pos} {f x : Str}
/-- o.f += e of ints, o an instance in a box -/
def dAugB (K : PySem.W.Frag) (h : Nat) (f : Str) (wo we : WE) : WS := fun Dd γ => wo γ fun x γ1 => (∃ m L q C fs i, x = .ref q ∧ γ1[h]? = some (.hp m L) ∧ L q = some (.ins C fs) ∧ (Cls K C ∧ NoAttr K C f) ∧ fs.lookup f = some (.int i) ∧
  we γ1 fun d γ2 => ∃ j m L fs, d = .int j ∧ γ2[h]? = some (.hp m L) ∧ L q = some (.ins C fs) ∧ fs.length < 1000 ∧ Dd.nx (γ2.set h (.hp m (updB L q (.ins C (putD f (.int (i + j)) fs))))))
end
end DL
set_option Elab.async false
set_option linter.all false
set_option autoImplicit false
set_option maxRecDepth 100000
set_option maxHeartbeats 4000000
/-! DL30: steps for boxes. -/
namespace DL
open PySem PySem.Spec PyProof.Rows L2
section
variable {K : PySem.W.Frag} {γ : List Sl} {h : Nat} {m mm : Bool} {L : Bxs} {q : Addr} {C : Addr} {fs : List (Str × D)} {f : Str} {d : D} {ds es : List D} {b b' : Bx} {p : Addr}
variable {wa wb we wo : WE} {w : WA} {wf : WF} {Q : D → List Sl → Prop} {Dd : EndsD} {s : SpecB} {nm : Str}
theorem getB_ne (n : q ≠ p) (e : L q = some b) : updB L p b' q = some b := (updB_ne n).trans e
theorem i_fldB (k : wa γ fun x γ1 => ∃ m L q C fs d, x = .ref q ∧ γ1[h]? = some (.hp m L) ∧ L q = some (.ins C fs) ∧ (Cls K C ∧ NoAttr K C f) ∧ fs.lookup f = some d ∧ Q d γ1) : dFldB K h f wa γ Q := k
instance : Go (dFldB K h f wa γ Q) (wa γ fun x γ1 => ∃ m L q C fs d, x = .ref q ∧ γ1[h]? = some (.hp m L) ∧ L q = some (.ins C fs) ∧ (Cls K C ∧ NoAttr K C f) ∧ fs.lookup f = some d ∧ Q d γ1) := ⟨fun z => i_fldB z⟩
theorem i_putB (k : we γ fun d γ1 => wo γ1 fun x γ2 => ∃ m L q C fs, x = .ref q ∧ γ2[h]? = some (.hp m L) ∧ L q = some (.ins C fs) ∧ (Cls K C ∧ NoAttr K C f) ∧ fs.length < 1000 ∧ Dd.nx (γ2.set h (.hp m (updB L q (.ins C (putD f d fs)))))) : dPutB K h f wo we Dd γ := k
instance : Go (dPutB K h f wo we Dd γ) (we γ fun d γ1 => wo γ1 fun x γ2 => ∃ m L q C fs, x = .ref q ∧ γ2[h]? = some (.hp m L) ∧ L q = some (.ins C fs) ∧ (Cls K C ∧ NoAttr K C f) ∧ fs.length < 1000 ∧ Dd.nx (γ2.set h (.hp m (updB L q (.ins C (putD f d fs)))))) := ⟨fun z => i_putB z⟩
theorem i_putB2 {F : Bool → Bxs → Addr → Addr → List (Str × D) → Prop} (g : γ[h]? = some (.hp m L)) (l : L q = some (.ins C fs)) (c : Cls K C ∧ NoAttr K C f) (hl : fs.length < 1000) (k : F m L q C fs) :
    ∃ m L q' C fs, D.ref q = .ref q' ∧ γ[h]? = some (.hp m L) ∧ L q' = some (.ins C fs) ∧ (Cls K C ∧ NoAttr K C f) ∧ fs.length < 1000 ∧ F m L q' C fs := ⟨m, L, q, C, fs, rfl, g, l, c, hl, k⟩
theorem i_augB (k : wo γ fun x γ1 => (∃ m L q C fs i, x = .ref q ∧ γ1[h]? = some (.hp m L) ∧ L q = some (.ins C fs) ∧ (Cls K C ∧ NoAttr K C f) ∧ fs.lookup f = some (.int i) ∧
  we γ1 fun d γ2 => ∃ j m L fs, d = .int j ∧ γ2[h]? = some (.hp m L) ∧ L q = some (.ins C fs) ∧ fs.length < 1000 ∧ Dd.nx (γ2.set h (.hp m (updB L q (.ins C (putD f (.int (i + j)) fs)))))) ) : dAugB K h f wo we Dd γ := k
instance : Go (dAugB K h f wo we Dd γ) (wo γ fun x γ1 => (∃ m L q C fs i, x = .ref q ∧ γ1[h]? = some (.hp m L) ∧ L q = some (.ins C fs) ∧ (Cls K C ∧ NoAttr K C f) ∧ fs.lookup f = some (.int i) ∧
  we γ1 fun d γ2 => ∃ j m L fs, d = .int j ∧ γ2[h]? = some (.hp m L) ∧ L q = some (.ins C fs) ∧ fs.length < 1000 ∧ Dd.nx (γ2.set h (.hp m (updB L q (.ins C (putD f (.int (i + j)) fs))))))) := ⟨fun z => i_augB z⟩
theorem i_appB (k : wo γ fun x γ1 => (∃ m L q ds, x = .ref q ∧ γ1[h]? = some (.hp m L) ∧ L q = some (.lst ds)) ∧ we γ1 fun d γ2 => ∃ m L q ds, x = .ref q ∧ γ2[h]? = some (.hp m L) ∧ L q = some (.lst ds) ∧ ds.length < sizeLine ∧ Dd.nx (γ2.set h (.hp m (updB L q (.lst (ds ++ [d])))))) : dAppB h wo we Dd γ := k
instance : Go (dAppB h wo we Dd γ) (wo γ fun x γ1 => (∃ m L q ds, x = .ref q ∧ γ1[h]? = some (.hp m L) ∧ L q = some (.lst ds)) ∧ we γ1 fun d γ2 => ∃ m L q ds, x = .ref q ∧ γ2[h]? = some (.hp m L) ∧ L q = some (.lst ds) ∧ ds.length < sizeLine ∧ Dd.nx (γ2.set h (.hp m (updB L q (.lst (ds ++ [d])))))) := ⟨fun z => i_appB z⟩
theorem i_appB2 {P : Prop} (g : γ[h]? = some (.hp m L)) (l : L q = some (.lst ds)) (k : P) : (∃ m L q' ds, D.ref q = .ref q' ∧ γ[h]? = some (.hp m L) ∧ L q' = some (.lst ds)) ∧ P := ⟨⟨m, L, q, ds, rfl, g, l⟩, k⟩
theorem i_appB3 {F : Bool → Bxs → Addr → List D → Prop} (g : γ[h]? = some (.hp m L)) (l : L q = some (.lst ds)) (hz : ds.length < sizeLine) (k : F m L q ds) : ∃ m L q' ds, D.ref q = .ref q' ∧ γ[h]? = some (.hp m L) ∧ L q' = some (.lst ds) ∧ ds.length < sizeLine ∧ F m L q' ds := ⟨m, L, q, ds, rfl, g, l, hz, k⟩
theorem i_popB (k : wo γ fun x γ1 => ∃ m L q ds d, x = .ref q ∧ γ1[h]? = some (.hp m L) ∧ L q = some (.lst (ds ++ [d])) ∧ Q d (γ1.set h (.hp m (updB L q (.lst ds))))) : dPopB h wo γ Q := k
instance : Go (dPopB h wo γ Q) (wo γ fun x γ1 => ∃ m L q ds d, x = .ref q ∧ γ1[h]? = some (.hp m L) ∧ L q = some (.lst (ds ++ [d])) ∧ Q d (γ1.set h (.hp m (updB L q (.lst ds))))) := ⟨fun z => i_popB z⟩
theorem i_lenB (k : w γ fun ds γ1 => ∃ m L q es, ds = [.ref q] ∧ γ1[h]? = some (.hp m L) ∧ L q = some (.lst es) ∧ Q (.int es.length) γ1) : dLenB h w γ Q := k
instance : Go (dLenB h w γ Q) (w γ fun ds γ1 => ∃ m L q es, ds = [.ref q] ∧ γ1[h]? = some (.hp m L) ∧ L q = some (.lst es) ∧ Q (.int es.length) γ1) := ⟨fun z => i_lenB z⟩
theorem i_ixB (k : wa γ fun x γ1 => wb γ1 fun y γ2 => ∃ m L q es k d, x = .ref q ∧ y = .int k ∧ γ2[h]? = some (.hp m L) ∧ L q = some (.lst es) ∧ atI es k = some d ∧ Q d γ2) : dIxB h wa wb γ Q := k
instance : Go (dIxB h wa wb γ Q) (wa γ fun x γ1 => wb γ1 fun y γ2 => ∃ m L q es k d, x = .ref q ∧ y = .int k ∧ γ2[h]? = some (.hp m L) ∧ L q = some (.lst es) ∧ atI es k = some d ∧ Q d γ2) := ⟨fun z => i_ixB z⟩
theorem i_ixB2 {i : Int} {F : D → Prop} (g : γ[h]? = some (.hp m L)) (l : L q = some (.lst es)) (a : atI es i = some d) (k : F d) : ∃ m L q' es k d, D.ref q = .ref q' ∧ D.int i = .int k ∧ γ[h]? = some (.hp m L) ∧ L q' = some (.lst es) ∧ atI es k = some d ∧ F d := ⟨m, L, q, es, i, d, rfl, rfl, g, l, a, k⟩
theorem i_newB (k : wf γ fun ds γ1 => ∃ m L, γ1[h]? = some (.hp m L) ∧ ∀ p, L p = none → Q (.ref p) (γ1.set h (.hp m (updB L p (.lst ds))))) : dNewB h wf γ Q := k
instance : Go (dNewB h wf γ Q) (wf γ fun ds γ1 => ∃ m L, γ1[h]? = some (.hp m L) ∧ ∀ p, L p = none → Q (.ref p) (γ1.set h (.hp m (updB L p (.lst ds))))) := ⟨fun z => i_newB z⟩
theorem i_frzB (k : wa γ fun x γ1 => ∃ L q es, x = .ref q ∧ γ1[h]? = some (.hp false L) ∧ L q = some (.lst es) ∧ Q (.lst es) (γ1.set h (.hp false (delB L q)))) : dFrzB h wa γ Q := k
instance : Go (dFrzB h wa γ Q) (wa γ fun x γ1 => ∃ L q es, x = .ref q ∧ γ1[h]? = some (.hp false L) ∧ L q = some (.lst es) ∧ Q (.lst es) (γ1.set h (.hp false (delB L q)))) := ⟨fun z => i_frzB z⟩
theorem i_callBx (k : w γ fun ds γ1 => ∃ m L, γ1[h]? = some (.hp m L) ∧ s.S ds L fun d L' => Q d (γ1.set h (.hp m L'))) : dCallBx h s w γ Q := k
instance : Go (dCallBx h s w γ Q) (w γ fun ds γ1 => ∃ m L, γ1[h]? = some (.hp m L) ∧ s.S ds L fun d L' => Q d (γ1.set h (.hp m L'))) := ⟨fun z => i_callBx z⟩
theorem i_methB (k : wa γ fun x γ1 => ∃ mm L q fs, x = .ref q ∧ γ1[h]? = some (.hp mm L) ∧ L q = some (.ins C fs) ∧ fs.lookup nm = none ∧ w γ1 fun ds γ2 => ∃ mm L, γ2[h]? = some (.hp mm L) ∧ s.S (.ref q :: ds) L fun d L' => Q d (γ2.set h (.hp mm L'))) : dMethB h C nm s wa w γ Q := k
instance : Go (dMethB h C nm s wa w γ Q) (wa γ fun x γ1 => ∃ mm L q fs, x = .ref q ∧ γ1[h]? = some (.hp mm L) ∧ L q = some (.ins C fs) ∧ fs.lookup nm = none ∧ w γ1 fun ds γ2 => ∃ mm L, γ2[h]? = some (.hp mm L) ∧ s.S (.ref q :: ds) L fun d L' => Q d (γ2.set h (.hp mm L'))) := ⟨fun z => i_methB z⟩
theorem i_makeB (k : w γ fun ds γ1 => ∃ m L, γ1[h]? = some (.hp m L) ∧ ∀ p, L p = none → s.S (.ref p :: ds) (updB L p (.ins C [])) fun d L' => d = .non ∧ Q (.ref p) (γ1.set h (.hp m L'))) : dMakeB h C s w γ Q := k
instance : Go (dMakeB h C s w γ Q) (w γ fun ds γ1 => ∃ m L, γ1[h]? = some (.hp m L) ∧ ∀ p, L p = none → s.S (.ref p :: ds) (updB L p (.ins C [])) fun d L' => d = .non ∧ Q (.ref p) (γ1.set h (.hp m L'))) := ⟨fun z => i_makeB z⟩
end
/-- a functional promise about boxes: I says what the boxes are, post what is answered, J what they are behind -/
def SpecB.fn {α : Type} (args : α → List D) (pre : α → Bxs → Prop) (post : α → D → Bxs → Bxs → Prop) : SpecB := ⟨fun ds L Q => ∃ a, ds = args a ∧ pre a L ∧ ∀ d L', post a d L L' → Q d L', fun ds L P P' k ⟨a, e, h, q⟩ => ⟨a, e, h, fun d L' z => k _ _ (q d L' z)⟩⟩
end DL
set_option Elab.async false
set_option linter.all false
set_option autoImplicit false
set_option maxRecDepth 100000
set_option maxHeartbeats 4000000
/-! DL31: items of boxes set. -/
namespace DL
open PySem PySem.Spec PyProof.Rows L2
section
variable {X : Xb} {K : PySem.W.Frag} {a b c e o : Expr} {es : List Expr} {ta tb tc te to tk : TE} {wa wb wc we wo wk : WE} {t : TA} {w : WA} {pos p p1 p2 px tpos : Pos} {f x : Str}
/-- o[k] = e, o a list in a box -/
def dStB (h : Nat) (we wo wk : WE) : WS := fun Dd γ => we γ fun d γ1 => wo γ1 fun x γ2 => wk γ2 fun y γ3 => ∃ m L q ds n j, x = .ref q ∧ y = .int n ∧ γ3[h]? = some (.hp m L) ∧ L q = some (.lst ds) ∧ ixN ds.length n = some j ∧ Dd.nx (γ3.set h (.hp m (updB L q (.lst (ds.set j d)))))
theorem ds_subB (h : Nat) {ps : Pos} {k : Expr} {tk : TE} {wk : WE} (ho : DE X o to wo) (he : DE X e te we) (hk : DE X k tk wk) (ha : ∀ v, assign (.Subscript o k ps) X.env v = (do
      let ov ← holding [v] (eval o X.env)
      let iv ← holding [v, ov] (eval k X.env)
      standAt ps
      holding [v, ov, iv] (setItem ov iv v)
      release [v, ov, iv] []) := by intro _; rfl) (hs : swapsWithSole [.Subscript o k ps] e pos.line X.env = pure false := by rfl) (hw : swappedStores [.Subscript o k ps] e X.env = pure none := by rfl)
    (h1 : (assignEach [.Subscript o k ps] X.env).map (·.2) = [assign (.Subscript o k ps) X.env] := by rfl) : DS X (.Assign [.Subscript o k ps] e pos) (tAsg te (gSub to tk rSetL)) (dStB h we wo wk) := by
  refine ⟨ps_asg he.pe (pg_sub ho.pe hk.pe set_list ha) hs hw h1, ⟨fun B S0 S H σ γ Dd D R e L q => ?_⟩⟩
  refine he.se.run B S H σ γ _ R (he.se.mono γ _ _ (fun d γ1 q v S1 H1 R1 e1 d1 => ?_) q)
  refine ho.se.run B S1 H1 σ γ1 _ R1 (ho.se.mono γ1 _ _ (fun x γ2 q u S2 H2 R2 e2 d2 => ?_) q)
  refine hk.se.run B S2 H2 σ γ2 _ R2 (hk.se.mono γ2 _ _ (fun y γ3 ⟨m, Lb, q0, ds, n, j, ex, ey, g, l, hj, q'⟩ z S3 H3 R3 e3 d3 => ?_) q)
  subst ex ey
  obtain rfl := d2.ref_inv
  cases d3
  obtain ⟨xs, k1, k2⟩ := R3.boxL g l
  exact ⟨q0, xs, n, j, rfl, rfl, k1, by rw [k2.1]; exact hj, L.nx S3 _ σ _ (e.trans (e1.trans (e2.trans e3))) (R3.chgL g l (k2.set (d1.mono (e2.trans e3)) j)) q'⟩
end
section
variable {γ : List Sl} {h : Nat} {m : Bool} {L : Bxs} {q : Addr} {es : List D} {Dd : EndsD} {we wo wk : WE}
theorem i_stB (k : we γ fun d γ1 => wo γ1 fun x γ2 => wk γ2 fun y γ3 => ∃ m L q ds n j, x = .ref q ∧ y = .int n ∧ γ3[h]? = some (.hp m L) ∧ L q = some (.lst ds) ∧ ixN ds.length n = some j ∧ Dd.nx (γ3.set h (.hp m (updB L q (.lst (ds.set j d)))))) : dStB h we wo wk Dd γ := k
instance : Go (dStB h we wo wk Dd γ) (we γ fun d γ1 => wo γ1 fun x γ2 => wk γ2 fun y γ3 => ∃ m L q ds n j, x = .ref q ∧ y = .int n ∧ γ3[h]? = some (.hp m L) ∧ L q = some (.lst ds) ∧ ixN ds.length n = some j ∧ Dd.nx (γ3.set h (.hp m (updB L q (.lst (ds.set j d)))))) := ⟨fun z => i_stB z⟩
theorem i_stB2 {i : Int} {j : Nat} {F : Bool → Bxs → Addr → List D → Nat → Prop} (g : γ[h]? = some (.hp m L)) (l : L q = some (.lst es)) (a : ixN es.length i = some j) (k : F m L q es j) : ∃ m L q' ds n j, D.ref q = .ref q' ∧ D.int i = .int n ∧ γ[h]? = some (.hp m L) ∧ L q' = some (.lst ds) ∧ ixN ds.length n = some j ∧ F m L q' ds j := ⟨m, L, q, es, i, j, rfl, rfl, g, l, a, k⟩
end
end DL
namespace DL
open PySem PySem.Spec PyProof.Rows L2
theorem fn_noneB {P : Program} {w : World} {K : PySem.W.Frag} {mg : Str → Option Value} {base : Heap} {f : Addr} {fd : FuncData} {ps : List Str} {s : SpecB} (h : ∀ ds L Q, ¬ s.S ds L Q) : FnOk P w K mg base CX0 0 f fd ps (spB K s) :=
  ⟨fun vs H Q E ⟨_, _, _, _, _, _, _, _, q⟩ => (h _ _ _ q).elim, fun A outer s0 H args us vs Q E hr he hb hv ⟨_, _, _, _, _, _, _, _, q⟩ => (h _ _ _ q).elim⟩
end DL
set_option Elab.async false
set_option linter.all false
set_option autoImplicit false
set_option maxRecDepth 100000
set_option maxHeartbeats 4000000
/-! DL32: calls counted one by one (for defs that call one another deep). -/
namespace DL
open PySem PySem.Spec PyProof.Rows L2
/-- room for j calls, one in the other -/
structure RoomR (j : Nat) (A : Around) : Prop where
  h : A.handled = none
  d : A.depth + j + 5 < recursionLimit
  u : A.units + 3 * j + 400 < cLine
theorem RoomR.le {i j : Nat} {A : Around} (r : RoomR j A) (h : i ≤ j) : RoomR i A := ⟨r.h, by have := r.d; omega, by have := r.u; omega⟩
theorem RoomR.down {j : Nat} {A : Around} (r : RoomR (j + 1) A) (env : Env) : RoomR j (A.deeper env) := ⟨r.h, by
  have h := r.d
  have e : (A.deeper env).depth = A.depth + 1 := rfl
  omega, by
  have h := r.u
  have e : (A.deeper env).units = A.units + 3 := rfl
  omega⟩
theorem RoomR.room {j k : Nat} {A : Around} (r : RoomR j A) (h : 3 * k ≤ j) (hk : k ≤ 12) : Room k A := ⟨r.h, by have := r.d; omega, by have := r.u; omega⟩
theorem RoomR.of {j k : Nat} {A : Around} (r : Room k A) (h : j ≤ 3 * k) (hk : 3 * j + 200 ≤ 16 * k) : RoomR j A := ⟨r.hd, by have := r.dp; omega, by have := r.un; omega⟩
/-- a def keeps its promise where there is room for j calls -/
structure FnR (P : Program) (w : World) (K : PySem.W.Frag) (mg : Str → Option Value) (base : Heap) (j : Nat) (f : Addr) (fd : FuncData) (ps : List Str) (sp : Sp) : Prop where
  n : ∀ vs H Q E, sp vs H Q E → vs.length = ps.length
  go : ∀ {A : Around} {outer : List Env} {s : Shared} {H : Hp} {args : Args} {us : List Value} {vs : List V} {Q : VK} {E : XK}, RoomR j A → Env0 P w K mg base A outer s H → BindsTo s fd args (ps.zip us) → Vals vs us → sp vs H Q E → codeAny (model P w) A (.call (.ref f) args) (CR CX0 outer P w H s Q E) s
section
variable {P : Program} {w : World} {K : PySem.W.Frag} {mg : Str → Option Value} {base : Heap} {f : Addr} {fd : FuncData} {ps N : List Str} {sp : Sp} {j k : Nat}
theorem FnR.le (F : FnR P w K mg base j f fd ps sp) (h : j ≤ k) : FnR P w K mg base k f fd ps sp := ⟨F.n, fun r e b v q => F.go (r.le h) e b v q⟩
/-- the rule for such a def -/
theorem Fun.okR {x qual : Str} {st : Stmt} (F : Fun K x qual st f fd) (Sc : FnScope N ps (defScope st)) (hn : ∀ vs H Q E, sp vs H Q E → vs.length = ps.length)
    (hb : ∀ (cdv : Value) (A : Around) (o : List Env) (s : Shared) (H : Hp) (vs : List V) (Q : VK) (E : XK), RoomR j (A.deeper (envOfC qual (defScope st) s.heap.objs.size f cdv)) → sp vs H Q E →
      ∃ t, PSs (cxOf CX0 P w K mg base N qual (defScope st) f cdv A o s H E).nox (defBody st) t ∧ t { nx := fun _ H1 => Q .non H1, rt := Q } (L2.start N vs) H) : FnR P w K mg base (j + 1) f fd ps sp := by
  obtain ⟨c1, c2, c3, c4, c5, c6, cdv, c7, c8, e, l, g⟩ := F.ex
  subst e
  refine ⟨hn, ?_⟩
  intro A o s H as us vs Q E r0 e0 b0 v0 q0
  obtain ⟨t, T1, T2⟩ := hb cdv A o s H vs Q E (r0.down _) q0
  have T3 := T1.nox
  have hlen := hn _ _ _ _ q0
  have stays : ∀ (a : Addr) (x : Obj), base.get? a = some x → s.heap.get? a = some x := fun a x z => (e0.bs a x z).1
  have inK : K.In s.heap := e0.mod.kin.keeps stays
  have nol : s.heap.NoLimit := e0.mod.nolimit.keeps stays
  refine codeAny_call_function (show A.depth < recursionLimit by have := r0.d; omega) (inK _ _ l) rfl Sc.co Sc.gen rfl (PySem.W.codeRec_of inK g) (b0 _ _ _ _ ?_)
  refine wpAny_newFunctionEnv_cells Sc.kind (fun z hz => ?_) fun en en_eq s2 x2 => ?_
  · obtain ⟨a, b⟩ := z
    exact (Sc.par a (List.of_mem_zip hz).1).imp id fun c => ⟨c, PySem.W.cellsFrom_some _ _ _ (.inl c)⟩
  subst en_eq
  refine ⟨nol.keeps x2.toInCall.keep, codeAny_func (wpAny_mono (T3.run [] s2 (L2.start N vs) H _ (inv_start Sc r0.h e0 hlen v0 x2) T2) (fun r s3 h3 => ?_) fun _ _ h3 => h3)⟩
  cases r with
  | brk => obtain ⟨_, _, _, h⟩ := h3; exact h.elim
  | cont => obtain ⟨_, _, _, h⟩ := h3; exact h.elim
  | next =>
    obtain ⟨σ1, H1, J, h⟩ := h3
    exact ⟨.non, H1, J.os, J.bare, J.base, J.hok, rfl, h⟩
  | ret y =>
    obtain ⟨v1, σ1, H1, J, h0, h⟩ := h3
    exact ⟨v1, H1, J.os, J.bare, J.base, J.hok, h0, h⟩
end
section
variable {X : Cx} {j : Nat} {f : Addr} {fd : FuncData} {ps : List Str} {sp : Sp} {E : XK} {x : Str} {p pos : Pos} {e : Expr} {es : List Expr} {t : TA}
end
section
variable {X : Xb} {f : Addr} {fd : FuncData} {ps : List Str} {j : Nat} {x : Str} {e : Expr} {es : List Expr} {t : TA} {w : WA} {p pos : Pos} {s : SpecB}
end
section
variable {P : Program} {w : World} {K : PySem.W.Frag} {mg : Str → Option Value} {base : Heap} {f : Addr} {fd : FuncData} {ps N : List Str} {x qual : Str} {st : Stmt} {j : Nat}
end
end DL
set_option Elab.async false
set_option linter.all false
set_option autoImplicit false
set_option maxRecDepth 100000
set_option maxHeartbeats 4000000
/-! DL33: keyword arguments of plain defs. -/
namespace DL
open PySem PySem.Spec PyProof.Rows L2
structure DK (X : Xb) (kws : List Keyword) (t : TA) (w : WA) : Prop where
  pk : PK X kws t
  sa : SA X t w
/-- a def of the top with keyword-only parameters: n written ones, then keywords -/
structure Gk (K : PySem.W.Frag) (mg : Str → Option Value) (x : Str) (st : Stmt) (ps : List Str) (n : Nat) (ks : List Str) (kws : List (Str × V)) : Type where
  f : Addr
  fd : FuncData
  F : Fun K x x st f fd
  g : mg x = some (.ref f)
  /-- all keywords are written -/
  kb : KBn K fd ps n ks (fun us ws => us ++ ws) (fun vs zs => vs ++ zs)
section
variable {X : Xb} {K : PySem.W.Frag} {f : Addr} {fd : FuncData} {ps ks : List Str} {k n : Nat} {x nm : Str} {e : Expr} {es : List Expr} {te : TE} {we : WE} {t tk : TA} {w wk : WA} {p pos kpos : Pos} {kws : List Keyword} {s : SpecD}
/-- a call with keywords -/
def dCallK (n m : Nat) (s : SpecD) (w wk : WA) : WE := fun γ Q => w γ fun ds γ1 => wk γ1 fun es γ2 => ds.length = n ∧ es.length = m ∧ s.S (ds ++ es) fun r => Q r.val γ2
end
end DL
set_option Elab.async false
set_option linter.all false
set_option autoImplicit false
set_option maxRecDepth 100000
set_option maxHeartbeats 4000000
/-! DL34: enumerate of a tuple. -/
namespace PySem
end PySem
namespace DL
open PySem PySem.Spec PyProof.Rows L2
/-- the tuple at a, each item in a new pair -/
def IteT (K : PySem.W.Frag) (a : Addr) : It where
  go i H := ∃ (xs : List V) (x : V), SqT K H a xs ∧ xs[i]? = some x
  yld i H v H1 := ∃ T x, v = .ref T ∧ H T = none ∧ H1 = L2.upd H T (.tup [.int (i : Nat), x]) ∧ ∀ xs, SqT K H a xs → xs[i]? = some x
  stop i H := ∃ xs : List V, SqT K H a xs ∧ xs.length ≤ i
def iEnumT (K : PySem.W.Frag) (ta : TA) : TI := fun σ H R => ta σ H fun vs H1 => ∃ a xs, vs = [.ref a] ∧ SqT K H1 a xs ∧ R (IteT K a) H1
section
variable {X : Xb} {e : Expr} {p pos : Pos}
/-- enumerate(tuple) -/
def dIEnT (w : WA) : WA := fun γ Q => w γ fun ds γ1 => ∃ es, ds = [.tup es] ∧ Q (enumD es) γ1
theorem i_ienT {w : WA} {γ : List Sl} {QA : List D → List Sl → Prop} (q : w γ fun ds γ1 => ∃ es, ds = [.tup es] ∧ QA (enumD es) γ1) : dIEnT w γ QA := q
instance {w : WA} {γ : List Sl} {QA : List D → List Sl → Prop} : Go (dIEnT w γ QA) (w γ fun ds γ1 => ∃ es, ds = [.tup es] ∧ QA (enumD es) γ1) := ⟨fun z => i_ienT z⟩
theorem i_ienT' {ds : List D} {P : List D → Prop} (q : P ds) : ∃ es, [D.tup ds] = [.tup es] ∧ P es := ⟨ds, rfl, q⟩
end
end DL
set_option Elab.async false
set_option linter.all false
set_option autoImplicit false
set_option maxRecDepth 100000
set_option maxHeartbeats 4000000
/-! DL35: try/except whose body raises nothing. -/
namespace DL
open PySem PySem.Spec PyProof.Rows L2
section
variable {X : Xb} {body : List Stmt} {h₀ : ExceptHandler} {hs : List ExceptHandler} {t : TS} {w : WS} {pos : Pos}
end
end DL
set_option Elab.async false
set_option linter.all false
set_option autoImplicit false
set_option maxRecDepth 100000
set_option maxHeartbeats 4000000
/-! DL36: steps with one equation that rfl closes, found by the goal's form; guards. -/
namespace DL
open PySem PySem.Spec PyProof.Rows L2
/-- one step back to «there is one x, an equation, and the rest» -/
class GoH1 (P : Prop) (H : outParam Prop) : Prop where
  go : H → P
/-- .. two x's .. -/
class GoH2 (P : Prop) (H : outParam Prop) : Prop where
  go : H → P
theorem ex_id {α : Sort _} {p : α → Prop} (h : Exists p) : Exists p := h
theorem and_id {p q : Prop} (h : p ∧ q) : p ∧ q := h
theorem if_id {c : Prop} {i : Decidable c} {p q : Prop} (h : @ite Prop c i p q) : @ite Prop c i p q := h
section
variable {γ : List Sl} {i h : Nat} {Q : D → List Sl → Prop} {QF : List D → List Sl → Prop} {QT : Bool → List Sl → Prop} {R : D → Prop} {Dd : EndsD} {w : WS} {we wb : WE} {wA : WA} {wt : WT} {ds : List D} {n m : Int}
instance : Go (fLt (.int m) (.int n) R) (R (.bl (decide (m < n)))) := ⟨fun z => i_lt' z⟩
instance : Go (fLe (.int m) (.int n) R) (R (.bl (decide (m ≤ n)))) := ⟨fun z => i_le' z⟩
instance {P : List D → Prop} : Go (∃ es, [D.tup ds] = [.tup es] ∧ P es) (P ds) := ⟨fun z => i_ienT' z⟩
instance {P : List D → Prop} : Go (∃ es, [D.lst ds] = [.lst es] ∧ P es) (P ds) := ⟨fun z => i_ien' z⟩
instance {es : List D} {P : List D → List D → Prop} : Go (∃ a b, [D.lst ds, D.lst es] = [.lst a, .lst b] ∧ P a b) (P ds es) := ⟨fun z => i_iz' z⟩
instance : GoH1 (dVar i γ Q) (∃ d, γ[i]? = some (.val d) ∧ Q d γ) := ⟨fun ⟨_, g, q⟩ => i_var g q⟩
instance : GoH1 (dFrz i w Dd γ) (∃ ds, γ[i]? = some (.own false ds) ∧ w Dd (γ.set i (.val (.lst ds)))) := ⟨fun z => z⟩
instance : GoH1 (dRetO i Dd γ) (∃ ds, γ[i]? = some (.own false ds) ∧ Dd.rt (.f ds) (γ.set i .any)) := ⟨fun z => z⟩
instance {f : Int → Int → Int} : GoH1 (dAug i f we Dd γ) (∃ n, γ[i]? = some (.val (.int n)) ∧ we γ fun d γ1 => ∃ k, d = .int k ∧ Dd.nx (γ1.set i (.val (.int (f n k))))) := ⟨fun z => z⟩
instance {QA : List D → List Sl → Prop} : GoH1 (dIS i γ QA) (∃ ns, γ[i]? = some (.scr ns) ∧ QA (ns.map D.int) γ) := ⟨fun z => z⟩
instance {s : SpecS} : GoH1 (dCallScr i s γ QF) (∃ ns, γ[i]? = some (.scr ns) ∧ s.S ns fun r => ∃ es, r = .f es ∧ QF es γ) := ⟨fun z => z⟩
instance : GoH1 (itemD (.lst ds) (.int n) R) (∃ d, atI ds n = some d ∧ R d) := ⟨fun ⟨_, g, q⟩ => i_ixL g q⟩
instance : GoH1 (itemD (.tup ds) (.int n) R) (∃ d, atI ds n = some d ∧ R d) := ⟨fun ⟨_, g, q⟩ => i_ixT g q⟩
instance : GoH2 (dLendT i wt γ QT) (∃ m ds, γ[i]? = some (.own m ds) ∧ wt (lent i ds γ) fun b _ => QT b γ) := ⟨fun z => z⟩
instance : GoH2 (dLend i we γ Q) (∃ m ds, γ[i]? = some (.own m ds) ∧ we (lent i ds γ) fun d _ => flat d ∧ Q d γ) := ⟨fun z => z⟩
instance : GoH2 (dLenO i γ Q) (∃ m ds, γ[i]? = some (.own m ds) ∧ Q (.int ds.length) γ) := ⟨fun z => z⟩
instance : GoH2 (dIxO i wb γ Q) (∃ m ds, γ[i]? = some (.own m ds) ∧ wb γ fun y γ1 => ∃ k m ds d, y = .int k ∧ γ1[i]? = some (.own m ds) ∧ atI ds k = some d ∧ Q d γ1) := ⟨fun ⟨_, _, g, q⟩ => i_ixO g q⟩
instance : GoH2 (dApp i we Dd γ) (∃ m ds, γ[i]? = some (.own m ds) ∧ we γ fun d γ1 => ∃ m ds, γ1[i]? = some (.own m ds) ∧ ds.length < sizeLine ∧ (m = true → flat d) ∧ Dd.nx (γ1.set i (.own m (ds ++ [d])))) := ⟨fun ⟨_, _, g, q⟩ => i_app g q⟩
instance : GoH2 (dExt i we Dd γ) (∃ m ds, γ[i]? = some (.own m ds) ∧ we γ fun d γ1 => ∃ es m ds, d = .lst es ∧ γ1[i]? = some (.own m ds) ∧ ds.length + es.length ≤ sizeLine ∧ (m = true → flats es) ∧ Dd.nx (γ1.set i (.own m (ds ++ es)))) := ⟨fun ⟨_, _, g, q⟩ => i_ext g q⟩
instance {s : SpecP} : GoH2 (dCallP i s wA γ Q) (∃ m pl, γ[i]? = some (.own m pl) ∧ wA γ fun ds γ1 => ∃ m pl, γ1[i]? = some (.own m pl) ∧ s.S pl ds fun r pl' => Q r.val (γ1.set i (.own m pl'))) := ⟨fun ⟨_, _, g, q⟩ => i_callP g q⟩
instance {s : SpecP} : GoH2 (dCallPF i s wA γ QF) (∃ m pl, γ[i]? = some (.own m pl) ∧ wA γ fun ds γ1 => ∃ m pl, γ1[i]? = some (.own m pl) ∧ s.S pl ds fun r pl' => ∃ es, r = .f es ∧ QF es (γ1.set i (.own m pl'))) := ⟨fun ⟨_, _, g, q⟩ => i_callPF g q⟩
instance {F : Bool → List D → Prop} : GoH2 (∃ m pl, γ[i]? = some (.own m pl) ∧ F m pl) (∃ m pl, γ[i]? = some (.own m pl) ∧ F m pl) := ⟨fun z => z⟩
instance {F : Bool → Bxs → Prop} : GoH2 (∃ m L, γ[h]? = some (.hp m L) ∧ F m L) (∃ m L, γ[h]? = some (.hp m L) ∧ F m L) := ⟨fun z => z⟩
end
end DL
set_option Elab.async false
set_option linter.all false
set_option autoImplicit false
set_option maxRecDepth 100000
set_option maxHeartbeats 4000000
/-! DL37: exceptions: defs that may raise, their calls, raise. -/
namespace DL
open PySem PySem.Spec PyProof.Rows L2
/-- what is wanted of an exception of the class at C, with these fields -/
abbrev EQ := Addr → List (Str × D) → Prop
/-- a promise of a def that may raise -/
structure SpecX where
  S : List D → (Rv → Prop) → EQ → Prop
  mono : ∀ ds (P P' : Rv → Prop) (E E' : EQ), (∀ r, P r → P' r) → (∀ C fs, E C fs → E' C fs) → S ds P E → S ds P' E'
/-- the way out is a function of what comes in -/
def SpecX.fn {α : Type} (args : α → List D) (pre : α → Prop) (out : α → Sum Rv (Addr × List (Str × D))) : SpecX :=
  ⟨fun ds Q E => ∃ a, ds = args a ∧ pre a ∧ (match out a with | .inl r => Q r | .inr e => E e.1 e.2), fun ds P P' E E' k k' ⟨a, e, h, q⟩ => ⟨a, e, h, by
    cases o : out a with
    | inl r => rw [o] at q; exact k _ q
    | inr z => rw [o] at q; exact k' _ _ q⟩⟩
def spX (K : PySem.W.Frag) (s : SpecX) : Sp := fun vs H Q E => ∃ S ds, Same S H ∧ DenL S vs ds ∧ s.S ds (fun r => ∀ v S' H', Rel0 K ⟨H, S, [], [], emptyH⟩ S' H' [] [] → RvOk ⟨H, S, [], [], emptyH⟩ S' H' v r → Q v H')
  (fun C fs => ∀ S' H' d, Rel0 K ⟨H, S, [], [], emptyH⟩ S' H' [] [] → ExD S' d fs → E (.ref C) d H')
/-- a context whose code may raise -/
abbrev Xb.x (c : Cx) (E : XK) (dX : EQ) : Xb := ⟨c, fun cls d _ H => E cls d H, fun C fs _ => dX C fs⟩
section
variable {X : Xb} {K : PySem.W.Frag} {f : Addr} {fd : FuncData} {ps : List Str} {k : Nat} {x : Str} {e : Expr} {es : List Expr} {t : TA} {w : WA} {p pos : Pos}
def dCallX (s : SpecX) (dX : Addr → List (Str × D) → List Sl → Prop) (w : WA) : WE := fun γ Q => w γ fun ds γ1 => s.S ds (fun r => Q r.val γ1) fun C fs => dX C fs γ1
end
section
variable {P : Program} {w : World} {K : PySem.W.Frag} {mg : Str → Option Value} {base : Heap} {x qual : Str} {st : Stmt} {f : Addr} {fd : FuncData} {N ps : List Str} {k : Nat}
end
/-! ### raise -/
/-- an own exception class without an own __init__ -/
structure Xc0 (K : PySem.W.Frag) (mg : Str → Option Value) (x : Str) where
  C : Addr
  g : mg x = some (.ref C)
  q : PySem.W.excIn K C [.type "ValueError", .type "Exception", .type "BaseException", .type "object"] "ValueError.__new__" = true
  k : PySem.W.keepIn K (.ref C) = true
  b : PySem.W.subIn K (.ref C) (.type "BaseException") = some true
  t : PySem.W.typeIn K (.ref C) = some (.type "type")
section
variable {X : Xb} {x : Str} {p p2 pos : Pos} {te : TE} {we : WE} {e : Expr}
def dRaise0 (C : Addr) (dX : Addr → List (Str × D) → List Sl → Prop) : WS := fun _ γ => dX C [] γ
/-- what the __init__ of a class with one field does -/
def spInit1 (C : Addr) (f : Str) : Sp := fun vs H Q _ => ∃ a y, vs = [.ref a, y] ∧ H a = some (exo a C none) ∧ ∀ dx, H dx = none → dx ≠ a → Q .non (upd (upd H dx (exd dx [(f, y)])) a (exo a C (some dx)))
/-- an own exception class with an __init__ of one field -/
structure Xc1 (P : Program) (w : World) (K : PySem.W.Frag) (mg : Str → Option Value) (base : Heap) (x f : Str) where
  C : Addr
  g : mg x = some (.ref C)
  T : OexC K C
  fI : Addr
  i : PySem.W.findIn K (.ref C) "__init__" = some (some (.ref fI))
  ti : PySem.W.typeIn K (.ref fI) = some (.type "function")
  fd : FuncData
  ps : List Str
  F : FnOk P w K mg base CX0 1 fI fd ps (spInit1 C f)
  b : Binds K fd ps []
def dRaise1 (C : Addr) (f : Str) (we : WE) (dX : Addr → List (Str × D) → List Sl → Prop) : WS := fun _ γ => we γ fun d γ1 => dX C [(f, d)] γ1
end
end DL
set_option Elab.async false
set_option linter.all false
set_option autoImplicit false
set_option maxRecDepth 100000
set_option maxHeartbeats 4000000
/-! DL38: try: .. except C as e: .. -/
namespace DL
open PySem PySem.Spec PyProof.Rows L2
/-! statements where nothing is kept aside -/
structure SS0 (X : Xb) (t : TS) (w : WS) : Prop where
  run : ∀ B S0 S H σ γ Dd D, B.fr = [] → Rel X B S H σ γ → Same S0 S → Link X B S0 Dd D → w Dd γ → t D σ H
structure DS0 (X : Xb) (st : Stmt) (t : TS) (w : WS) : Prop where
  ps : PS X st t
  ss : SS0 X t w
structure DSs0 (X : Xb) (st : List Stmt) (t : TS) (w : WS) : Prop where
  ps : PSs X st t
  ss : SS0 X t w
section
variable {X : Xb} {st : Stmt} {rest sts : List Stmt} {t u : TS} {w w' : WS}
theorem SS.s0 (h : SS X t w) : SS0 X t w := ⟨fun B S0 S H σ γ Dd D _ R e L q => h.run B S0 S H σ γ Dd D R e L q⟩
theorem DS.d0 (h : DS X st t w) : DS0 X st t w := ⟨h.ps, h.ss.s0⟩
theorem DSs.d0 (h : DSs X sts t w) : DSs0 X sts t w := ⟨h.ps, h.ss.s0⟩
end
section
variable {P : Program} {w : World} {K : PySem.W.Frag} {mg : Str → Option Value} {base : Heap} {x qual : Str} {st : Stmt} {f : Addr} {fd : FuncData} {N ps : List Str} {k : Nat}
end
/-! ### try -/
/-- what is known of a caught exception -/
def KnowX (cls : Value) (C : Addr) (d : Option Addr) (fs : List (Str × D)) : WX := fun _ _ _ H => cls = .ref C ∧ (d = none ∨ ∃ dd ws, d = some dd ∧ H dd = some (.xd ws)) ∧ ∀ f x, fs.lookup f = some x → flat x → ∃ dd ws v, d = some dd ∧ H dd = some (.xd ws) ∧ ws.lookup f = some v ∧ ∀ S, Den S v x
theorem KnowX.c {cls : Value} {C : Addr} {d : Option Addr} {fs : List (Str × D)} {e : Value} {d' : Option Addr} {σ : L2.St} {H : Hp} (k : KnowX cls C d fs e d' σ H) : cls = .ref C := k.1
/-- the context of an except suite: what is known of the exception stands in the place of the wish -/
abbrev Xb.su (X : Xb) (a : Addr) (oe : Obj) (pn : List (Addr × Obj)) (cls : Value) (C : Addr) (d : Option Addr) (fs : List (Str × D)) : Xb := ⟨X.c.suite a ((a, oe) :: pn), KnowX cls C d fs, fun _ _ _ => True⟩
def dTryAs (K : PySem.W.Frag) (C : Addr) (i : Nat) (wb : (Addr → List (Str × D) → List Sl → Prop) → WS) (wsu : Addr → List (Str × D) → WS) (dX : Addr → List (Str × D) → List Sl → Prop) : WS := fun Dd γ =>
  wb (fun C' fs γ1 => (C' = C ∧ ∀ a, wsu a fs { nx := fun γ2 => Dd.nx (γ2.set i .any), rt := Dd.rt, bk := fun γ2 => Dd.bk (γ2.set i .any), ct := fun γ2 => Dd.ct (γ2.set i .any) } (γ1.set i (.val (.ref a)))) ∨ (PySem.W.exmOne K (.ref C') (.ref C) = some false ∧ dX C' fs γ1)) Dd γ
section
variable {X : Xb} {i : Nat} {n x : Str} {body suite : List Stmt} {b₀ : Stmt} {np pos pos' : Pos} {tb : WX → TS} {ts : Addr → Value → Option Addr → TS} {wb : (Addr → List (Str × D) → List Sl → Prop) → WS} {wsu : Addr → List (Str × D) → WS} {C : Addr}
/-- e.f in an except suite (a field without parts) -/
def dXf (a : Addr) (fs : List (Str × D)) (i : Nat) (f : Str) : WE := fun γ Q => γ[i]? = some (.val (.ref a)) ∧ ∃ z, fs.lookup f = some z ∧ flat z ∧ Q z γ
end
end DL
set_option Elab.async false
set_option linter.all false
set_option autoImplicit false
set_option maxRecDepth 100000
set_option maxHeartbeats 4000000
/-! DL39: exceptions of defs that change boxes. -/
namespace DL
open PySem PySem.Spec PyProof.Rows L2
structure SpecBX where
  S : List D → Bxs → (D → Bxs → Prop) → EQ → Prop
  mono : ∀ ds L (P P' : D → Bxs → Prop) (E E' : EQ), (∀ d L', P d L' → P' d L') → (∀ C fs, E C fs → E' C fs) → S ds L P E → S ds L P' E'
/-- what comes and what changes, or an exception, by parameters -/
def SpecBX.fn {α : Type} (args : α → List D) (pre : α → Bxs → Prop) (post : α → D → Bxs → Bxs → Prop) (ex : α → Addr → List (Str × D) → Prop) : SpecBX :=
  ⟨fun ds L Q E => ∃ a, ds = args a ∧ pre a L ∧ (∀ d L', post a d L L' → Q d L') ∧ ∀ C fs, ex a C fs → E C fs, fun ds L P P' E E' k k' ⟨a, e, h, q, z⟩ => ⟨a, e, h, fun d L' r => k _ _ (q d L' r), fun C fs r => k' _ _ (z C fs r)⟩⟩
def spBX (K : PySem.W.Frag) (s : SpecBX) : Sp := fun vs H Q E => ∃ S mu L ds, Same S H ∧ (∀ a, a ∈ mu ↔ L a ≠ none) ∧ (∀ p b, L p = some b → S p = none ∧ BxOk S (H p) (some b)) ∧ DenL S vs ds ∧
  s.S ds L (fun d L' => ∀ v S' H', Rel0 K ⟨H, S, mu, [], emptyH⟩ S' H' [] [] → BxsOut S' H' L' mu H → Den S' v d → Q v H') (fun C fs => ∀ S' H' d L', Rel0 K ⟨H, S, mu, [], emptyH⟩ S' H' [] [] → BxsOut S' H' L' mu H → ExD S' d fs → E (.ref C) d H')
section
variable {X : Xb} {K : PySem.W.Frag} {C f : Addr} {fd : FuncData} {ps : List Str} {k : Nat} {x m : Str} {e o : Expr} {es : List Expr} {t : TA} {w : WA} {ta : TE} {wa : WE} {p pos apos : Pos} {s : SpecBX} {pl : Sem Bool}
/-- a call -/
def dCallBX (h : Nat) (s : SpecBX) (dX : Addr → List (Str × D) → List Sl → Prop) (w : WA) : WE := fun γ Q => w γ fun ds γ1 => ∃ m L, γ1[h]? = some (.hp m L) ∧ s.S ds L (fun d L' => Q d (γ1.set h (.hp m L'))) fun C fs => ∀ L', dX C fs (γ1.set h (.hp m L'))
/-- a method of an instance in a box; what is wanted of an exception does not look at the slots' variables (a def's own body, no try) -/
def dMethBX (h : Nat) (C : Addr) (m : Str) (s : SpecBX) (dX : Addr → List (Str × D) → List Sl → Prop) (wa : WE) (w : WA) : WE := fun γ Q => wa γ fun x γ1 => ∃ mm L q fs, x = .ref q ∧ γ1[h]? = some (.hp mm L) ∧ L q = some (.ins C fs) ∧ fs.lookup m = none ∧ w γ1 fun ds γ2 => ∃ mm L, γ2[h]? = some (.hp mm L) ∧ s.S (.ref q :: ds) L (fun d L' => Q d (γ2.set h (.hp mm L'))) fun C fs => ∀ L', dX C fs (γ2.set h (.hp mm L'))
end
section
variable {P : Program} {w : World} {K : PySem.W.Frag} {mg : Str → Option Value} {base : Heap} {x qual : Str} {st : Stmt} {f : Addr} {fd : FuncData} {N ps : List Str} {k : Nat}
end
end DL
set_option Elab.async false
set_option linter.all false
set_option autoImplicit false
set_option maxRecDepth 100000
set_option maxHeartbeats 4000000
/-! DL40: steps for exceptions. -/
namespace DL
open PySem PySem.Spec PyProof.Rows L2
section
variable {γ : List Sl} {h i : Nat} {Q : D → List Sl → Prop} {dX : Addr → List (Str × D) → List Sl → Prop} {w : WA} {we wa : WE} {Dd : EndsD} {C a : Addr} {f m : Str} {s : SpecX} {sb : SpecBX} {fs : List (Str × D)}
instance : Go (dCallX s dX w γ Q) (w γ fun ds γ1 => s.S ds (fun r => Q r.val γ1) fun C fs => dX C fs γ1) := ⟨fun z => z⟩
instance : Go (dCallBX h sb dX w γ Q) (w γ fun ds γ1 => ∃ m L, γ1[h]? = some (.hp m L) ∧ sb.S ds L (fun d L' => Q d (γ1.set h (.hp m L'))) fun C fs => ∀ L', dX C fs (γ1.set h (.hp m L'))) := ⟨fun z => z⟩
instance : Go (dMethBX h C m sb dX wa w γ Q) (wa γ fun x γ1 => ∃ mm L q fs, x = .ref q ∧ γ1[h]? = some (.hp mm L) ∧ L q = some (.ins C fs) ∧ fs.lookup m = none ∧ w γ1 fun ds γ2 => ∃ mm L, γ2[h]? = some (.hp mm L) ∧ sb.S (.ref q :: ds) L (fun d L' => Q d (γ2.set h (.hp mm L'))) fun C fs => ∀ L', dX C fs (γ2.set h (.hp mm L'))) := ⟨fun z => z⟩
instance : Go (dRaise0 C dX Dd γ) (dX C [] γ) := ⟨fun z => z⟩
instance : Go (dRaise1 C f we dX Dd γ) (we γ fun d γ1 => dX C [(f, d)] γ1) := ⟨fun z => z⟩
instance {K : PySem.W.Frag} {wb : (Addr → List (Str × D) → List Sl → Prop) → WS} {wsu : Addr → List (Str × D) → WS} : Go (dTryAs K C i wb wsu dX Dd γ) (wb (fun C' fs γ1 => (C' = C ∧ ∀ a, wsu a fs { nx := fun γ2 => Dd.nx (γ2.set i .any), rt := Dd.rt, bk := fun γ2 => Dd.bk (γ2.set i .any), ct := fun γ2 => Dd.ct (γ2.set i .any) } (γ1.set i (.val (.ref a)))) ∨ (PySem.W.exmOne K (.ref C') (.ref C) = some false ∧ dX C' fs γ1)) Dd γ) := ⟨fun z => z⟩
end
end DL
set_option Elab.async false
set_option linter.all false
set_option autoImplicit false
set_option maxRecDepth 100000
set_option maxHeartbeats 4000000
/-! DL41: calls with keywords of defs that may raise; list(..) and + over them are plain expressions. -/
namespace DL
open PySem PySem.Spec PyProof.Rows L2
/-- the reading: what is wished of an exception looks at the slots -/
def tCallNX (n m : Nat) (sp : Sp) (gV : List V → List V → List V) (E : L2.St → XK) (t tk : TA) : TE := fun σ H Q => t σ H fun vs H1 => tk σ H1 fun zs H2 => vs.length = n ∧ zs.length = m ∧ sp (gV vs zs) H2 Q (E σ)
section
variable {X : Cx} {CX : CXT} {k n : Nat} {f : Addr} {fd : FuncData} {ps ks : List Str} {sp : Sp} {E : L2.St → XK} {x : Str} {p pos : Pos} {e : Expr} {es : List Expr} {kws : List Keyword} {t tk : TA} {g : List Value → List Value → List Value} {gV : List V → List V → List V}
end
section
variable {X : Xb} {K : PySem.W.Frag} {f : Addr} {fd : FuncData} {ps ks : List Str} {k n : Nat} {x : Str} {e : Expr} {es : List Expr} {t tk : TA} {w wk : WA} {p pos : Pos} {kws : List Keyword} {s : SpecX}
def dCallKX (n m : Nat) (s : SpecX) (dX : Addr → List (Str × D) → List Sl → Prop) (w wk : WA) : WE := fun γ Q => w γ fun ds γ1 => wk γ1 fun es γ2 => ds.length = n ∧ es.length = m ∧ s.S (ds ++ es) (fun r => Q r.val γ2) fun C fs => dX C fs γ2
instance {γ : List Sl} {Q : D → List Sl → Prop} {m : Nat} {dX : Addr → List (Str × D) → List Sl → Prop} : Go (dCallKX n m s dX w wk γ Q) (w γ fun ds γ1 => wk γ1 fun es γ2 => ds.length = n ∧ es.length = m ∧ s.S (ds ++ es) (fun r => Q r.val γ2) fun C fs => dX C fs γ2) := ⟨fun z => z⟩
/-- what the law asks of a class whose exceptions it catches by name and whose field f it reads -/
structure Xh (K : PySem.W.Frag) (C : Addr) (f : Str) : Prop where
  ex : PySem.W.exmOne K (.ref C) (.ref C) = some true
  T : XfC K C
  no : PySem.W.findIn K (.ref C) f = some none
end
end DL
set_option Elab.async false
set_option linter.all false
set_option autoImplicit false
set_option maxRecDepth 100000
set_option maxHeartbeats 4000000
/-! DL42: calls of defs that may raise, in a try's body: what is wished of an exception is told explicitly (it is a variable there). -/
namespace DL
open PySem PySem.Spec PyProof.Rows L2
section
variable {X : Xb} {K : PySem.W.Frag} {f : Addr} {fd : FuncData} {ps ks : List Str} {k n : Nat} {x : Str} {e : Expr} {es : List Expr} {t tk : TA} {w wk : WA} {p pos : Pos} {kws : List Keyword} {s : SpecX}
end
end DL
set_option Elab.async false
set_option linter.all false
set_option autoImplicit false
set_option maxRecDepth 100000
set_option maxHeartbeats 4000000
/-! DL43: the head's facts of own exception classes. -/
namespace DL
open PySem PySem.Spec PyProof.Rows L2 He
section
variable {P : Program} {w : World} {K : PySem.W.Frag} {mg : Str → Option Value} {base : Heap} {x qual : Str} {st : Stmt} {f : Addr} {fd : FuncData} {s v fld : Str} {C : Addr}
theorem fn_init1 {p1 p2 p3 pos : Pos} (F : Fun K x qual st f fd) (Sc : FnScope [s, v] [s, v] (defScope st)) (hb : defBody st = [.Assign [.Attribute (.Name s p1) fld p2] (.Name v p3) pos]) (T : OexC K C) (hno : PySem.W.findIn K (.ref C) fld = some none)
    (d1 : (s == ("__debug__" : Str)) = false := by decide) (d2 : (s == ("__classdict__" : Str)) = false := by decide) (d3 : (v == ("__debug__" : Str)) = false := by decide) (d4 : (v == ("__classdict__" : Str)) = false := by decide) : FnOk P w K mg base CX0 1 f fd [s, v] (spInit1 C fld) := by
  have vis : ∀ y ∈ [s, v], ∀ (H : Hp) (cdv : Value) (A : Around) (outer : List Env) (s0 : Shared) (E : XK), Vis (cxOf CX0 P w K mg base [s, v] qual (defScope st) f cdv A outer s0 H E).nox.env.scope y := fun y hy H cdv A outer s0 E => by
    rcases Sc.par y hy with h | h
    · exact .inl h
    · exact .inr (.inl h)
  refine F.ok Sc (fun vs H Q E ⟨a, y, e, _⟩ => by rw [e]; rfl) fun cdv A outer s0 H vs Q E hr ⟨a, y, e, ha, q⟩ => ⟨tOst K fld (tVar 0) (tVar 1), ?_, ?_⟩
  · rw [hb]
    exact pss_one (ps_ost (X := (cxOf CX0 P w K mg base [s, v] qual (defScope st) f cdv A outer s0 H E).nox) (pe_var rfl (vis s (by simp) H cdv A outer s0 E) d1 d2) (pe_var rfl (vis v (by simp) H cdv A outer s0 E) d3 d4))
  · subst e
    exact ⟨y, rfl, .ref a, rfl, a, C, rfl, T, hno, .inl ⟨ha, fun dx h1 h2 => q dx h1 h2⟩⟩
end
section
variable {P : Program} {w : World} {K : PySem.W.Frag} {mg : Str → Option Value} {base h : Heap} {x : Str}
theorem base_ok (c : baseB x K = true) : PySem.W.subIn K (.ref (ga K x)) (.type "BaseException") = some true ∧ PySem.W.typeIn K (.ref (ga K x)) = some (.type "type") ∧ PySem.W.keepIn K (.ref (ga K x)) = true := by
  obtain ⟨c1, c⟩ := ba c
  obtain ⟨c2, c3⟩ := ba c
  exact ⟨of_decide_eq_true c1, of_decide_eq_true c2, c3⟩
theorem oexC1_ok {C : Addr} (q : oexC1 K C = true) : ∃ nm q N bs bm sn sub ab col dd k0 k1 k2 k3 k5, K.lookup C = some (excClassObj nm q C N bs bm true sn sub ab col dd k0 k1 k2 k3 k5 "ValueError.__new__") ∧ PySem.HandSPX.refsVE bm = true := by
  unfold oexC1 at q
  split at q
  · rename_i dd cd sl ho
    split at q
    · rename_i C' bm k0 k1 k2 k3 n k5 hm hs
      simp only [Bool.and_eq_true, beq_iff_eq, Bool.not_eq_true'] at q
      obtain ⟨rfl, rfl, hdel, hdic, ht⟩ := q
      obtain ⟨nm, bs, mro, ns, qn, hd, sn, sub, ab, col, del⟩ := cd
      dsimp only at hm hdel hdic
      subst hm hdel hdic
      have hsl : sl = #[k0, k1, k2, k3, some (.builtin "ValueError.__new__"), k5] := by
        obtain ⟨l⟩ := sl
        simp only at hs
        rw [hs]
      subst hsl
      exact ⟨nm, qn, ns, bs, bm, sn, sub, ab, col, dd, k0, k1, k2, k3, k5, ho, ht⟩
    · cases q
  · cases q
theorem oex_ok (c : oexB x K = true) : OexC K (ga K x) := by
  obtain ⟨c1, c⟩ := ba c
  obtain ⟨c2, c3⟩ := ba c
  obtain ⟨b1, b2, b3⟩ := base_ok c3
  exact ⟨oexC1_ok c1, eqO_ok c2, b1, b2, b3⟩
def Xc0.of (X : K.In h) (G : h.Ns mainGlobals mg) (hg : (Fa.glo x).ok K = true) (c : exc0B x K = true) : Xc0 K mg x :=
  have c' := ba c
  have b := base_ok c'.2
  ⟨ga K x, glo_ok X G hg, c'.1, b.2.2, b.1, b.2.1⟩
theorem xh_ok {f : Str} (c : xhB x f K = true) : Xh K (ga K x) f := by
  obtain ⟨c1, c⟩ := ba c
  obtain ⟨c2, c3⟩ := ba c
  exact ⟨of_decide_eq_true c1, xfB_ok c2, eqO_ok c3⟩
def Xc1.of {fld qual s v : Str} {st : Stmt} {p1 p2 p3 pos : Pos} (X : K.In h) (G : h.Ns mainGlobals mg) (hg : (Fa.glo x).ok K = true) (c : oexB x K = true) (cx : xhB x fld K = true) (Gi : Gm K (ga K x) "__init__" qual st [s, v]) (Sc : FnScope [s, v] [s, v] (defScope st)) (hb : defBody st = [.Assign [.Attribute (.Name s p1) fld p2] (.Name v p3) pos])
    (d1 : (s == ("__debug__" : Str)) = false := by decide) (d2 : (s == ("__classdict__" : Str)) = false := by decide) (d3 : (v == ("__debug__" : Str)) = false := by decide) (d4 : (v == ("__classdict__" : Str)) = false := by decide) : Xc1 P w K mg base x fld :=
  { C := ga K x
    g := glo_ok X G hg
    T := oex_ok c
    fI := Gi.f
    i := Gi.at
    ti := beq_iff_eq.mp Gi.fn
    fd := Gi.fd
    ps := [s, v]
    F := fn_init1 Gi.F Sc hb (oex_ok c) (xh_ok cx).no d1 d2 d3 d4
    b := Gi.b }
end
end DL
set_option Elab.async false
set_option linter.all false
set_option autoImplicit false
set_option maxRecDepth 100000
set_option maxHeartbeats 4000000
/-! DL44: a tuple repeated. -/
namespace DL
open PySem PySem.Spec PyProof.Rows L2
section
variable {X : Cx}
/-- a tuple repeated, once or more: repeated once it is itself -/
def rRepN (K : PySem.W.Frag) : R2 := fun x y H Q => ∃ l k xs, x = .ref l ∧ y = .int k ∧ SqT K H l xs ∧ xs ≠ [] ∧ 1 ≤ k ∧ k ≤ 1000 ∧ xs.length ≤ 1000 ∧ (k = 1 → Q (.ref l) H) ∧ (2 ≤ k → ∀ p, H p = none → Q (.ref p) (upd H p (.tup (List.replicate k.toNat xs).flatten)))
end
section
variable {X : Xb} {a b : Expr} {ta tb : TE} {wa wb : WE} {pos : Pos}
def dRepT (wa wb : WE) : WE := fun γ Q => wa γ fun x γ1 => wb γ1 fun y γ2 => ∃ ds k, x = .tup ds ∧ y = .int k ∧ ds ≠ [] ∧ 1 ≤ k ∧ k ≤ 1000 ∧ ds.length ≤ 1000 ∧ Q (.tup (List.replicate k.toNat ds).flatten) γ2
end
section
variable {γ : List Sl} {wa wb : WE} {Q : D → List Sl → Prop} {ds : List D} {k : Int}
instance : Go (dRepT wa wb γ Q) (wa γ fun x γ1 => wb γ1 fun y γ2 => ∃ ds k, x = .tup ds ∧ y = .int k ∧ ds ≠ [] ∧ 1 ≤ k ∧ k ≤ 1000 ∧ ds.length ≤ 1000 ∧ Q (.tup (List.replicate k.toNat ds).flatten) γ2) := ⟨fun z => z⟩
end
end DL
set_option Elab.async false
set_option linter.all false
set_option autoImplicit false
set_option maxRecDepth 100000
set_option maxHeartbeats 4000000
/-! DL45: a list in a box that stands in a tuple: lent, frozen; a box's list handed out as a new list. -/
namespace DL
open PySem PySem.Spec PyProof.Rows L2
/-- the box among the items, told as a list -/
theorem DenL.told {S S' : Hp} {zs : List V} {pre post : List D} {q : Addr} {es : List D} (h : DenL S zs (pre ++ .ref q :: post)) (e : Same S S') (d : Den S' (.ref q) (.lst es)) : DenL S' zs (pre ++ .lst es :: post) := by
  refine ⟨by rw [h.1, List.length_append, List.length_append]; rfl, fun i x y h1 h2 => ?_⟩
  by_cases hi : i = pre.length
  · subst hi
    rw [List.getElem?_append_right (Nat.le_refl _), Nat.sub_self] at h2
    cases h2
    have h3 := h.2 pre.length x (.ref q) h1 (by rw [List.getElem?_append_right (Nat.le_refl _), Nat.sub_self]; rfl)
    cases h3
    exact d
  · refine (h.2 i x y h1 ?_).mono e
    by_cases hl : i < pre.length
    · rw [List.getElem?_append_left hl] at h2 ⊢
      exact h2
    · rw [List.getElem?_append_right (by omega)] at h2 ⊢
      obtain ⟨j, hj⟩ : ∃ j, i - pre.length = j + 1 := ⟨i - pre.length - 1, by omega⟩
      rw [hj] at h2 ⊢
      exact h2
section
variable {X : Xb} {K : PySem.W.Frag} {B : Bs} {S H : Hp} {σ : L2.St} {γ : List Sl} {i h : Nat} {pre post es : List D} {q : Addr} {m : Bool} {L : Bxs}
theorem Den.told {S' : Hp} {v : V} (d : Den S v (.tup (pre ++ .ref q :: post))) (e : Same S S') (d2 : Den S' (.ref q) (.lst es)) : Den S' v (.tup (pre ++ .lst es :: post)) := by
  obtain ⟨a, zs, rfl, h1, h2⟩ := d.tup_inv
  exact .ofT (e _ _ h1) (h2.told e d2)
end
section
variable {X : Xb} {e : Expr} {te : TE} {we : WE} {tt : TT} {wt : WT} {sts : List Stmt} {t : TS} {w : WS} {pos : Pos}
def LendsB (γ : List Sl) (i h : Nat) (P : List Sl → Prop) : Prop := ∃ pre q post es m L, γ[i]? = some (.val (.tup (pre ++ .ref q :: post))) ∧ γ[h]? = some (.hp m L) ∧ L q = some (.lst es) ∧ P ((lentS γ).set i (.val (.tup (pre ++ .lst es :: post))))
def dLendBT (i h : Nat) (wt : WT) : WT := fun γ Q => LendsB γ i h fun γ1 => wt γ1 fun b _ => Q b γ
def dLendBE (i h : Nat) (we : WE) : WE := fun γ Q => LendsB γ i h fun γ1 => we γ1 fun d _ => flat d ∧ Q d γ
/-- from here on the box in slot i's tuple is a list, its value -/
def dFrzTB (i h : Nat) (w : WS) : WS := fun Dd γ => ∃ pre q post es L, γ[i]? = some (.val (.tup (pre ++ .ref q :: post))) ∧ γ[h]? = some (.hp false L) ∧ L q = some (.lst es) ∧ w Dd ((γ.set h (.hp false (delB L q))).set i (.val (.tup (pre ++ .lst es :: post))))
/-- return of a list in a box of one's own, as a new list -/
def dRetBx (h : Nat) (we : WE) : WS := fun Dd γ => we γ fun d γ1 => ∃ L q es, d = .ref q ∧ γ1[h]? = some (.hp false L) ∧ L q = some (.lst es) ∧ Dd.rt (.f es) γ1
end
section
variable {γ : List Sl} {i h : Nat} {pre post es : List D} {q : Addr} {m : Bool} {L : Bxs} {we : WE} {wt : WT} {w : WS} {Dd : EndsD} {Q : D → List Sl → Prop} {QT : Bool → List Sl → Prop}
instance : Go (dLendBT i h wt γ QT) (LendsB γ i h fun γ1 => wt γ1 fun b _ => QT b γ) := ⟨fun z => z⟩
instance : Go (dLendBE i h we γ Q) (LendsB γ i h fun γ1 => we γ1 fun d _ => flat d ∧ Q d γ) := ⟨fun z => z⟩
instance : Go (dRetBx h we Dd γ) (we γ fun d γ1 => ∃ L q es, d = .ref q ∧ γ1[h]? = some (.hp false L) ∧ L q = some (.lst es) ∧ Dd.rt (.f es) γ1) := ⟨fun z => z⟩
end
end DL
set_option Elab.async false
set_option linter.all false
set_option autoImplicit false
set_option maxRecDepth 100000
set_option maxHeartbeats 4000000
/-! DL46: try with several handlers that name nothing; calls with defaults. -/
namespace DL
open PySem PySem.Spec PyProof.Rows L2
/-- the context of an except suite that raises nothing -/
abbrev Xb.sn (X : Xb) (a : Addr) (oe : Obj) (pn : List (Addr × Obj)) : Xb := ⟨X.c.suite a ((a, oe) :: pn), fun _ _ _ _ => True, fun _ _ _ => True⟩
inductive DHds (X : Xb) : List ExceptHandler → List (Value × (Addr → Value → Option Addr → TS)) → List (Addr × WS) → Prop
  | nil : DHds X [] [] []
  | cons {x : Str} {C : Addr} {ts : Addr → Value → Option Addr → TS} {w : WS} {b₀ : Stmt} {suite : List Stmt} {np pos' : Pos} {hds : List ExceptHandler} {l : List (Value × (Addr → Value → Option Addr → TS))} {wl : List (Addr × WS)} (hg : X.mg x = some (.ref C))
      (hsu : ∀ (a : Addr) (oe : Obj) (cls : Value) (d : Option Addr) (pn : List (Addr × Obj)), Zc cls d oe → (∃ vs, oe.data = .fields vs) → DSs (X.sn a oe pn) (b₀ :: suite) (ts a cls d) w) (r : DHds X hds l wl) (hgl : Gl X x := by rfl) (hdb : (x == ("__debug__" : Str)) = false := by decide) :
      DHds X (.ExceptHandler (some (.Name x np)) none (b₀ :: suite) pos' :: hds) ((.ref C, ts) :: l) ((C, w) :: wl)
def manyD (K : PySem.W.Frag) (dX : Addr → List (Str × D) → List Sl → Prop) (Dd : EndsD) : List (Addr × WS) → Addr → List (Str × D) → List Sl → Prop
  | [] => dX
  | (C, w) :: r => fun C' fs γ => ∃ b, PySem.W.exmOne K (.ref C') (.ref C) = some b ∧ (b = true → w Dd γ) ∧ (b = false → manyD K dX Dd r C' fs γ)
def dTryMany (K : PySem.W.Frag) (wl : List (Addr × WS)) (wb : (Addr → List (Str × D) → List Sl → Prop) → WS) (dX : Addr → List (Str × D) → List Sl → Prop) : WS := fun Dd γ => wb (manyD K dX Dd wl) Dd γ
theorem DHds.ok {X : Xb} {hds : List ExceptHandler} {l : List (Value × (Addr → Value → Option Addr → TS))} {wl : List (Addr × WS)} (h : DHds X hds l wl) : HdsOk X.c hds l := by
  induction h with
  | nil => exact .nil
  | cons hg hsu r hgl hdb ih => exact .cons ⟨hgl, hdb, .inl hg⟩ (fun a oe cls d pn hz hd => (hsu a oe cls d pn hz hd).ps) ih
section
variable {X : Xb} {body : List Stmt} {h₀ : ExceptHandler} {hds : List ExceptHandler} {pos : Pos} {tb : WX → TS} {wb : (Addr → List (Str × D) → List Sl → Prop) → WS} {l : List (Value × (Addr → Value → Option Addr → TS))} {wl : List (Addr × WS)}
end
section
variable {K : PySem.W.Frag} {γ : List Sl} {Dd : EndsD} {wl : List (Addr × WS)} {wb : (Addr → List (Str × D) → List Sl → Prop) → WS} {dX : Addr → List (Str × D) → List Sl → Prop}
instance : Go (dTryMany K wl wb dX Dd γ) (wb (manyD K dX Dd wl) Dd γ) := ⟨fun z => z⟩
end
end DL
/-! ### calls with the keyword-only parameters left out -/
namespace DL
open PySem PySem.Spec PyProof.Rows L2
section
variable {X : Xb} {K : PySem.W.Frag} {f : Addr} {fd : FuncData} {ps : List Str} {k n : Nat} {x : Str} {e : Expr} {es : List Expr} {t : TA} {w : WA} {p pos : Pos} {s : SpecX} {mv : List Value} {dvs : List V} {dds : List D}
def dCallKD (n : Nat) (dds : List D) (s : SpecX) (dX : Addr → List (Str × D) → List Sl → Prop) (w : WA) : WE := fun γ Q => w γ fun ds γ1 => ds.length = n ∧ s.S (ds ++ dds) (fun r => Q r.val γ1) fun C fs => dX C fs γ1
instance {γ : List Sl} {Q : D → List Sl → Prop} {dX : Addr → List (Str × D) → List Sl → Prop} : Go (dCallKD n dds s dX w γ Q) (w γ fun ds γ1 => ds.length = n ∧ s.S (ds ++ dds) (fun r => Q r.val γ1) fun C fs => dX C fs γ1) := ⟨fun z => z⟩
/-- bound with the defaults dvs -/
structure Kd (K : PySem.W.Frag) (fd : FuncData) (ps : List Str) (n : Nat) (dvs : List V) : Type where
  mv : List Value
  kb : KBn K fd ps n [] (fun us ws => us ++ (mv ++ ws)) (fun vs zs => vs ++ (dvs ++ zs))
end
end DL
set_option Elab.async false
set_option linter.all false
set_option autoImplicit false
set_option maxRecDepth 100000
set_option maxHeartbeats 4000000
/-! DL47: append in a try's body or suite. -/
namespace DL
open PySem PySem.Spec PyProof.Rows L2
section
variable {X : Xb} {e : Expr} {te : TE} {we : WE} {pos : Pos}
end
end DL
set_option Elab.async false
set_option linter.all false
set_option autoImplicit false
set_option maxRecDepth 100000
set_option maxHeartbeats 4000000
/-! DL48: try with several handlers, of which some name the exception. -/
namespace L2
open PySem PySem.Spec PyProof.Rows
abbrev MixH := Value × Option Nat × (Addr → Value → Option Addr → TS)
/-- the ends of a suite whose name i is unbound behind it -/
abbrev endsU (D : Ends) (i : Nat) : Ends := { nx := fun σ' H' => D.nx (σ'.set i none) H', rt := D.rt, bk := fun σ' H' => D.bk (σ'.set i none) H', ct := fun σ' H' => D.ct (σ'.set i none) H' }
def wMix (K : PySem.W.Frag) (Wout : WX) (D : Ends) : List MixH → WX
  | [] => Wout
  | (c, none, ts) :: r => fun cls d σ H => ∃ b, PySem.W.exmOne K cls c = some b ∧ (b = true → ∀ a, H a = none → ts a cls d D σ H) ∧ (b = false → wMix K Wout D r cls d σ H)
  | (c, some i, ts) :: r => fun cls d σ H => ∃ b, PySem.W.exmOne K cls c = some b ∧ (b = true → ∀ a, H a = none → ts a cls d (endsU D i) (σ.set i (some (.ref a))) H) ∧ (b = false → wMix K Wout D r cls d σ H)
inductive MixOk (X : Cx) : List ExceptHandler → List MixH → Prop
  | nil : MixOk X [] []
  | cons {x : Str} {c : Value} {ts : Addr → Value → Option Addr → TS} {b₀ : Stmt} {suite : List Stmt} {np pos' : Pos} {hds : List ExceptHandler} {l : List MixH} (hc : Names X x c)
      (hsu : ∀ (a : Addr) (oe : Obj) (cls : Value) (d : Option Addr) (pn : List (Addr × Obj)), Zc cls d oe → (∃ vs, oe.data = .fields vs) → PSs (X.suite a ((a, oe) :: pn)) (b₀ :: suite) (ts a cls d)) (r : MixOk X hds l) :
      MixOk X (.ExceptHandler (some (.Name x np)) none (b₀ :: suite) pos' :: hds) ((c, none, ts) :: l)
  | named {x n : Str} {c : Value} {i : Nat} {ts : Addr → Value → Option Addr → TS} {b₀ : Stmt} {suite : List Stmt} {np pos' : Pos} {hds : List ExceptHandler} {l : List MixH} (hc : Names X x c) (hi : X.N[i]? = some n) (hln : X.env.kindOf n = some .local)
      (hsu : ∀ (a : Addr) (oe : Obj) (cls : Value) (d : Option Addr) (pn : List (Addr × Obj)), Zc cls d oe → (∃ vs, oe.data = .fields vs) → PSs (X.suite a ((a, oe) :: pn)) (b₀ :: suite) (ts a cls d)) (r : MixOk X hds l) :
      MixOk X (.ExceptHandler (some (.Name x np)) (some n) (b₀ :: suite) pos' :: hds) ((c, some i, ts) :: l)
section
variable {X : Cx} {body : List Stmt} {h₀ : ExceptHandler} {hds : List ExceptHandler} {l : List MixH} {pos : Pos} {tb : WX → TS} {Wout : WX}
end
end L2
namespace DL
open PySem PySem.Spec PyProof.Rows L2
abbrev EndsD.unset (Dd : EndsD) (i : Nat) : EndsD := { nx := fun γ2 => Dd.nx (γ2.set i .any), rt := Dd.rt, bk := fun γ2 => Dd.bk (γ2.set i .any), ct := fun γ2 => Dd.ct (γ2.set i .any) }
abbrev MixD := Addr × (WS ⊕ (Nat × (Addr → List (Str × D) → WS)))
inductive DHmx (X : Xb) : List ExceptHandler → List MixH → List MixD → Prop
  | nil : DHmx X [] [] []
  | cons {x : Str} {C : Addr} {ts : Addr → Value → Option Addr → TS} {w : WS} {b₀ : Stmt} {suite : List Stmt} {np pos' : Pos} {hds : List ExceptHandler} {l : List MixH} {wl : List MixD} (hg : X.mg x = some (.ref C))
      (hsu : ∀ (a : Addr) (oe : Obj) (cls : Value) (d : Option Addr) (pn : List (Addr × Obj)), Zc cls d oe → (∃ vs, oe.data = .fields vs) → DSs (X.sn a oe pn) (b₀ :: suite) (ts a cls d) w) (r : DHmx X hds l wl) (hgl : Gl X x := by rfl) (hdb : (x == ("__debug__" : Str)) = false := by decide) :
      DHmx X (.ExceptHandler (some (.Name x np)) none (b₀ :: suite) pos' :: hds) ((.ref C, none, ts) :: l) ((C, .inl w) :: wl)
  | named {x n : Str} {C : Addr} {i : Nat} {ts : Addr → Value → Option Addr → TS} {wsu : Addr → List (Str × D) → WS} {b₀ : Stmt} {suite : List Stmt} {np pos' : Pos} {hds : List ExceptHandler} {l : List MixH} {wl : List MixD} (hex : PySem.W.exmOne X.K (.ref C) (.ref C) = some true) (hg : X.mg x = some (.ref C))
      (hsu : ∀ (a : Addr) (oe : Obj) (cls : Value) (d : Option Addr) (pn : List (Addr × Obj)) (fs : List (Str × D)), Zc cls d oe → (∃ vs, oe.data = .fields vs) → DSs (X.su a oe pn cls C d fs) (b₀ :: suite) (ts a cls d) (wsu a fs)) (r : DHmx X hds l wl)
      (hi : X.N[i]? = some n := by rfl) (hln : X.env.kindOf n = some .local := by rfl) (hgl : Gl X x := by rfl) (hdb : (x == ("__debug__" : Str)) = false := by decide) :
      DHmx X (.ExceptHandler (some (.Name x np)) (some n) (b₀ :: suite) pos' :: hds) ((.ref C, some i, ts) :: l) ((C, .inr (i, wsu)) :: wl)
def mixD (K : PySem.W.Frag) (dX : Addr → List (Str × D) → List Sl → Prop) (Dd : EndsD) : List MixD → Addr → List (Str × D) → List Sl → Prop
  | [] => dX
  | (C, .inl w) :: r => fun C' fs γ => ∃ b, PySem.W.exmOne K (.ref C') (.ref C) = some b ∧ (b = true → w Dd γ) ∧ (b = false → mixD K dX Dd r C' fs γ)
  | (C, .inr (i, wsu)) :: r => fun C' fs γ => (C' = C ∧ ∀ a, wsu a fs (EndsD.unset Dd i) (γ.set i (.val (.ref a)))) ∨ (PySem.W.exmOne K (.ref C') (.ref C) = some false ∧ mixD K dX Dd r C' fs γ)
def dTryMix (K : PySem.W.Frag) (wl : List MixD) (wb : (Addr → List (Str × D) → List Sl → Prop) → WS) (dX : Addr → List (Str × D) → List Sl → Prop) : WS := fun Dd γ => wb (mixD K dX Dd wl) Dd γ
theorem DHmx.ok {X : Xb} {hds : List ExceptHandler} {l : List MixH} {wl : List MixD} (h : DHmx X hds l wl) : MixOk X.c hds l := by
  induction h with
  | nil => exact .nil
  | cons hg hsu r hgl hdb ih => exact .cons ⟨hgl, hdb, .inl hg⟩ (fun a oe cls d pn hz hd => (hsu a oe cls d pn hz hd).ps) ih
  | named hex hg hsu r hi hln hgl hdb ih => exact .named ⟨hgl, hdb, .inl hg⟩ hi hln (fun a oe cls d pn hz hd => (hsu a oe cls d pn [] hz hd).ps) ih
section
variable {X : Xb} {body : List Stmt} {h₀ : ExceptHandler} {hds : List ExceptHandler} {pos : Pos} {tb : WX → TS} {wb : (Addr → List (Str × D) → List Sl → Prop) → WS} {l : List MixH} {wl : List MixD}
instance {K : PySem.W.Frag} {γ : List Sl} {Dd : EndsD} {wl : List MixD} {wb : (Addr → List (Str × D) → List Sl → Prop) → WS} {dX : Addr → List (Str × D) → List Sl → Prop} : Go (dTryMix K wl wb dX Dd γ) (wb (mixD K dX Dd wl) Dd γ) := ⟨fun z => z⟩
end
end DL
set_option Elab.async false
set_option linter.all false
set_option autoImplicit false
set_option maxRecDepth 100000
set_option maxHeartbeats 4000000
/-! DL49: calls with one keyword given and the other left out. -/
namespace DL
open PySem PySem.Spec PyProof.Rows L2
section
variable {X : Xb} {K : PySem.W.Frag} {f : Addr} {fd : FuncData} {ps ks : List Str} {k n m : Nat} {x : Str} {e : Expr} {es : List Expr} {kws : List Keyword} {t tk : TA} {w wk : WA} {p pos : Pos} {s : SpecX} {gu : List Value → List Value → List Value} {gv : List V → List V → List V} {gd : List D → List D → List D}
def dCallKG (n m : Nat) (gd : List D → List D → List D) (s : SpecX) (dX : Addr → List (Str × D) → List Sl → Prop) (w wk : WA) : WE := fun γ Q => w γ fun ds γ1 => wk γ1 fun es γ2 => ds.length = n ∧ es.length = m ∧ s.S (gd ds es) (fun r => Q r.val γ2) fun C fs => dX C fs γ2
instance {γ : List Sl} {Q : D → List Sl → Prop} {dX : Addr → List (Str × D) → List Sl → Prop} : Go (dCallKG n m gd s dX w wk γ Q) (w γ fun ds γ1 => wk γ1 fun es γ2 => ds.length = n ∧ es.length = m ∧ s.S (gd ds es) (fun r => Q r.val γ2) fun C fs => dX C fs γ2) := ⟨fun z => z⟩
end
/-- bound with the defaults dvs ahead of the keywords given -/
structure KgF (K : PySem.W.Frag) (fd : FuncData) (ps : List Str) (n : Nat) (ks : List Str) (dvs : List V) : Type where
  mv : List Value
  kb : KBn K fd ps n ks (fun us ws => us ++ (mv ++ ws)) (fun vs zs => vs ++ (dvs ++ zs))
/-- bound with the defaults dvs behind the keywords given -/
structure KgB (K : PySem.W.Frag) (fd : FuncData) (ps : List Str) (n : Nat) (ks : List Str) (dvs : List V) : Type where
  mv : List Value
  kb : KBn K fd ps n ks (fun us ws => us ++ (ws ++ mv)) (fun vs zs => vs ++ (zs ++ dvs))
end DL
set_option Elab.async false
set_option linter.all false
set_option autoImplicit false
set_option maxRecDepth 100000
set_option maxHeartbeats 4000000
/-! DL50: insert into a list of one's own. -/
namespace DL
open PySem PySem.Spec PyProof.Rows L2
abbrev rIns : V → List V → Hp → (V → Hp → Prop) → Prop := fun x vs H Q => ∃ (l : Addr) (xs : List V) (i : Int) (y : V), x = .ref l ∧ vs = [.int i, y] ∧ H l = some (.lst xs) ∧ xs.length < sizeLine ∧ 0 ≤ i ∧ i < 2 ^ 63 ∧
    Q .non (upd H l (.lst (xs.take i.toNat ++ [y] ++ xs.drop i.toNat)))
section
variable {X : Xb} {e o : Expr} {te to : TE} {we wo : WE} {pos : Pos}
def dIns (i : Nat) (wo we : WE) : WS := fun Dd γ => (∃ m ds, γ[i]? = some (.own m ds)) ∧ wo γ fun y γ1 => we γ1 fun d γ2 => ∃ n m ds, y = .int n ∧ γ2[i]? = some (.own m ds) ∧ ds.length < sizeLine ∧ (0 ≤ n ∧ n < 2 ^ 63) ∧ (m = true → flat d) ∧ Dd.nx (γ2.set i (.own m (ds.take n.toNat ++ [d] ++ ds.drop n.toNat)))
end
end DL
set_option Elab.async false
set_option linter.all false
set_option autoImplicit false
set_option maxRecDepth 100000
set_option maxHeartbeats 4000000
/-! DL51: calls of defs that may raise and tell a new list. -/
namespace DL
open PySem PySem.Spec PyProof.Rows L2
section
variable {X : Xb} {K : PySem.W.Frag} {f : Addr} {fd : FuncData} {ps : List Str} {k : Nat} {x : Str} {e : Expr} {es : List Expr} {t : TA} {w : WA} {p pos : Pos}
def dCallXF (s : SpecX) (dX : Addr → List (Str × D) → List Sl → Prop) (w : WA) : WF := fun γ Q => w γ fun ds γ1 => s.S ds (fun r => ∃ es, r = .f es ∧ Q es γ1) fun C fs => dX C fs γ1
end
section
variable {s : SpecX} {dX : Addr → List (Str × D) → List Sl → Prop} {w : WA} {γ : List Sl} {Q : List D → List Sl → Prop}
instance : Go (dCallXF s dX w γ Q) (w γ fun ds γ1 => s.S ds (fun r => ∃ es, r = .f es ∧ Q es γ1) (fun C fs => dX C fs γ1)) := ⟨fun z => z⟩
end
end DL
set_option Elab.async false
set_option linter.all false
set_option autoImplicit false
set_option maxRecDepth 100000
set_option maxHeartbeats 4000000
/-! DL52: pop(k) of a list of one's own; sorted of few ints. -/
namespace DL
open PySem PySem.Spec PyProof.Rows L2
section
variable {X : Xb} {e a : Expr} {te ta : TE} {we wa : WE} {pos p : Pos}
/-- xs.pop(e), xs of one's own, no index from behind -/
def dPopO (i : Nat) (we : WE) : WE := fun γ Q => (∃ m ds, γ[i]? = some (.own m ds)) ∧ we γ fun d γ1 => ∃ (n : Int) (m : Bool) (ds : List D) (y : D), d = .int n ∧ γ1[i]? = some (.own m ds) ∧ (0 ≤ n ∧ n < 2 ^ 63) ∧ ds[n.toNat]? = some y ∧ Q y (γ1.set i (.own m (ds.eraseIdx n.toNat)))
/-- sorted(e), e a list of less than 64 ints -/
def dSorted (wa : WE) : WF := fun γ Q => wa γ fun x γ1 => ∃ ns : List Int, x = .lst (ns.map D.int) ∧ ns.length < 64 ∧ ∀ ns' : List Int, ns'.Perm ns → ns'.Pairwise (· ≤ ·) → Q (ns'.map D.int) γ1
theorem ints_inv {S : Hp} : ∀ {xs : List V} {ns : List Int}, DenL S xs (ns.map D.int) → xs = ns.map V.int
  | xs, ns, h => by
    refine List.ext_getElem? fun k => ?_
    rw [List.getElem?_map]
    cases e : ns[k]? with
    | none =>
      have : ns.length ≤ k := List.getElem?_eq_none_iff.mp e
      exact List.getElem?_eq_none_iff.mpr (by rw [h.1, List.length_map]; exact this)
    | some z =>
      obtain ⟨u, hu, du⟩ := h.get (i := k) (d := .int z) (by rw [List.getElem?_map, e]; rfl)
      cases du
      exact hu
end
section
variable {γ : List Sl} {i : Nat} {Q : D → List Sl → Prop} {QF : List D → List Sl → Prop} {we : WE}
instance : GoH2 (dPopO i we γ Q) (∃ m ds, γ[i]? = some (.own m ds) ∧ we γ fun d γ1 => ∃ (n : Int) (m : Bool) (ds : List D) (y : D), d = .int n ∧ γ1[i]? = some (.own m ds) ∧ (0 ≤ n ∧ n < 2 ^ 63) ∧ ds[n.toNat]? = some y ∧ Q y (γ1.set i (.own m (ds.eraseIdx n.toNat)))) := ⟨fun ⟨_, _, g, q⟩ => ⟨⟨_, _, g⟩, q⟩⟩
instance : Go (dSorted we γ QF) (we γ fun x γ1 => ∃ ns : List Int, x = .lst (ns.map D.int) ∧ ns.length < 64 ∧ ∀ ns' : List Int, ns'.Perm ns → ns'.Pairwise (· ≤ ·) → QF (ns'.map D.int) γ1) := ⟨fun z => z⟩
end
end DL
set_option Elab.async false
set_option linter.all false
set_option autoImplicit false
set_option maxRecDepth 100000
set_option maxHeartbeats 4000000
/-! DL53: generators: a for loop in a generator's body, list(g(..)). -/
namespace DL
open PySem PySem.Spec PyProof.Rows L2 GenW
/-! a for loop in a generator's body -/
def tGFor (wi : TI) (g : TG) (tb : TGn) : TGn := fun D ys σ H => wi σ H fun J H1 => ∃ W : Nat → Nat → List V → L2.St → Hp → Prop, (∃ m, W 0 m ys σ H1) ∧ ∀ i m ys σ H, W i m ys σ H →
  (J.stop i H ∧ D.nx ys σ H) ∨ (J.go i H ∧ ∃ N : List V → L2.St → Hp → Prop, (∀ ys' σ' H', N ys' σ' H' → ∃ m', m' < m ∧ W (i + 1) m' ys' σ' H') ∧ ∀ x H', J.yld i H x H' → g x σ H' fun σ2 H2 => tb { D with nx := N, ct := N, bk := D.nx } ys σ2 H2)
section
variable {X : Cx} {tg iter : Expr} {body : List Stmt}
end
end DL

namespace DL
open PySem PySem.Spec PyProof.Rows L2 GenW
/-- a generator def's promise: what it hands out; then it ends -/
structure SpecY where
  S : List D → (List D → Prop) → Prop
  mono : ∀ ds P P', (∀ r, P r → P' r) → S ds P → S ds P'
def spY (K : PySem.W.Frag) (s : SpecY) : SpG := fun vs H Q _ => ∃ S ds, Same S H ∧ DenL S vs ds ∧ s.S ds fun out => ∀ ys S' H', Rel0 K ⟨H, S, [], [], emptyH⟩ S' H' [] [] → DenL S' ys out → Q ys H'

abbrev WY := (List D → List Sl → Prop) → List D → List Sl → Prop
structure SY (X : Xb) (t : TGn) (w : WY) : Prop where
  run : ∀ B S0 S H σ γ (nx : List D → List Sl → Prop) (D : GEnds) ys out, Rel X B S H σ γ → Same S0 S → DenL S ys out → (∀ S' H' σ' γ' ys' out', Same S0 S' → Rel X B S' H' σ' γ' → DenL S' ys' out' → nx out' γ' → D.nx ys' σ' H') → w nx out γ → t D ys σ H
structure DY (X : Xb) (st : Stmt) (t : TGn) (w : WY) : Prop where
  gs : GS X st t
  sy : SY X t w
structure DYs (X : Xb) (st : List Stmt) (t : TGn) (w : WY) : Prop where
  gs : GSs X st t
  sy : SY X t w
section
variable {X : Xb} {st : Stmt} {rest : List Stmt} {e : Expr} {te : TE} {we : WE} {pos yp : Pos}
def yPlain (w : WS) : WY := fun nx out γ => w { nx := fun γ' => nx out γ', rt := fun _ _ => False } γ
def yYield (we : WE) : WY := fun nx out γ => out.length < sizeLine ∧ we γ fun d γ' => nx (out ++ [d]) γ'
def yNil : WY := fun nx out γ => nx out γ
def ySeq (w w' : WY) : WY := fun nx out γ => w (w' nx) out γ
def yFor (wi : WA) (wg : WG) (wb : WY) : WY := fun nx out γ => wi γ fun ds γ1 => ∃ I : Nat → List D → List Sl → Prop, I 0 out γ1 ∧ (∀ i d out γ, ds[i]? = some d → I i out γ → wg d γ fun γ2 => wb (I (i + 1)) out γ2) ∧ ∀ out γ, I ds.length out γ → nx out γ
end
/-! ### the def -/
section
variable {P : Program} {w : World} {K : PySem.W.Frag} {mg : Str → Option Value} {base : Heap} {x qual : Str} {st : Stmt} {f : Addr} {fd : FuncData} {N ps : List Str} {k : Nat}
end
/-! ### list(g(..)) -/
def tCallGN (n m : Nat) (sp : SpG) (gV : List V → List V → List V) (E : XK) (t tk : TA) : TGen := fun σ H cont => t σ H fun vs H1 => tk σ H1 fun zs H2 => vs.length = n ∧ zs.length = m ∧ sp (gV vs zs) H2 cont E
section
variable {X : Cx} {k n : Nat} {f : Addr} {fd : FuncData} {ps ks : List Str} {sp : SpG} {E : XK} {x : Str} {p pos : Pos} {e : Expr} {es : List Expr} {kws : List Keyword} {t tk : TA} {g : List Value → List Value → List Value} {gV : List V → List V → List V}
end
section
variable {X : Xb} {K : PySem.W.Frag} {f : Addr} {fd : FuncData} {ps ks : List Str} {k n : Nat} {x nm : Str} {e : Expr} {es : List Expr} {t tk : TA} {w wk : WA} {p p2 pos pos2 : Pos} {kws : List Keyword} {s : SpecY}
def dListG (n m : Nat) (s : SpecY) (w wk : WA) : WF := fun γ Q => w γ fun ds γ1 => wk γ1 fun es γ2 => ds.length = n ∧ es.length = m ∧ s.S (ds ++ es) fun out => Q out γ2
end
end DL
namespace DL
open PySem PySem.Spec PyProof.Rows L2
section
variable {nx : List D → List Sl → Prop} {out : List D} {γ : List Sl} {w w' : WY} {ws : WS} {we : WE} {wi : WA} {wg : WG} {wb : WY}
instance : Go (ySeq w w' nx out γ) (w (w' nx) out γ) := ⟨fun z => z⟩
instance : Go (yPlain ws nx out γ) (ws { nx := fun γ' => nx out γ', rt := fun _ _ => False } γ) := ⟨fun z => z⟩
instance : Go (yNil nx out γ) (nx out γ) := ⟨fun z => z⟩
instance : Go (yFor wi wg wb nx out γ) (wi γ fun ds γ1 => ∃ I : Nat → List D → List Sl → Prop, I 0 out γ1 ∧ (∀ i d out γ, ds[i]? = some d → I i out γ → wg d γ fun γ2 => wb (I (i + 1)) out γ2) ∧ ∀ out γ, I ds.length out γ → nx out γ) := ⟨fun z => z⟩
end
section
variable {n m : Nat} {s : SpecY} {w wk : WA} {γ : List Sl} {Q : List D → List Sl → Prop}
instance : Go (dListG n m s w wk γ Q) (w γ fun ds γ1 => wk γ1 fun es γ2 => ds.length = n ∧ es.length = m ∧ s.S (ds ++ es) fun out => Q out γ2) := ⟨fun z => z⟩
end
end DL
set_option Elab.async false
set_option linter.all false
set_option autoImplicit false
set_option maxRecDepth 100000
set_option maxHeartbeats 4000000
/-! DL54: boxes: a list lent as a value, walks over lists in boxes, clear, instances frozen; methods and constructors with promises about boxes. -/
namespace DL
open PySem PySem.Spec PyProof.Rows L2
theorem DenL.flats {S S' : Hp} {xs : List V} {ds : List D} (h : DenL S xs ds) (f : flats ds) : DenL S' xs ds :=
  ⟨h.1, fun i x d h1 h2 => (h.2 i x d h1 h2).flat (f d (List.mem_of_getElem? h2))⟩
section
variable {X : Xb} {K : PySem.W.Frag} {B : Bs} {S H : Hp} {σ : L2.St} {γ : List Sl} {i h : Nat} {es : List D} {q : Addr} {m : Bool} {L : Bxs}
end
section
variable {X : Xb} {e : Expr} {te : TE} {we : WE} {wf : WF} {tt : TT} {wt : WT} {sts : List Stmt} {t : TS} {w : WS} {pos : Pos}
def LendsR (γ : List Sl) (i h : Nat) (P : List Sl → Prop) : Prop := ∃ q es m L, γ[i]? = some (.val (.ref q)) ∧ γ[h]? = some (.hp m L) ∧ L q = some (.lst es) ∧ P ((lentS γ).set i (.val (.lst es)))
def dLendRT (i h : Nat) (wt : WT) : WT := fun γ Q => LendsR γ i h fun γ1 => wt γ1 fun b _ => Q b γ
def dLendRE (i h : Nat) (we : WE) : WE := fun γ Q => LendsR γ i h fun γ1 => we γ1 fun d _ => flat d ∧ Q d γ
def dLendRF (i h : Nat) (wf : WF) : WF := fun γ Q => LendsR γ i h fun γ1 => wf γ1 fun ds _ => flats ds ∧ Q ds γ
/-! ### a walk over a list in a box -/
variable {tg iter a b : Expr} {body : List Stmt} {g : TG} {wg : WG} {tb : TS} {wb : WS} {p : Pos}
def OnBox (h : Nat) (q : Addr) (es : List D) (γ : List Sl) : Prop := ∃ m L, γ[h]? = some (.hp m L) ∧ L q = some (.lst es)
def dForB (h : Nat) (wi : WE) (wg : WG) (wb : WS) : WS := fun Dd γ => wi γ fun d γ1 => ∃ q es, d = .ref q ∧ OnBox h q es γ1 ∧ ∃ I : Nat → List Sl → Prop, I 0 γ1 ∧
  (∀ i d γ, es[i]? = some d → I i γ → OnBox h q es γ ∧ wg d γ fun γ2 => wb { Dd with nx := I (i + 1), ct := I (i + 1), bk := Dd.nx } γ2) ∧ ∀ γ, I es.length γ → OnBox h q es γ ∧ Dd.nx γ
theorem ds_forB (K' : PySem.W.Frag) (h : Nat) (hp : PassesOwn (model X.prog X.w) X.A X.env X.xe) (hc : X.calm = true) (hi : DE X iter te we) (hg : DG X tg g wg) (hb : DSs X body tb wb)
    (hs : ∀ x, foldedSetIterable iter X.env x = pure x := by intro _; rfl) (hK : X.K = K' := by rfl) : DS X (.For tg iter body [] pos) (tFor (iList K' te) g tb) (dForB h we wg wb) := by
  subst hK
  refine ⟨ps_for hp hc (pi_list hi.pe) hg.pg hb.ps hs, ⟨fun B S0 S H σ γ Dd D R e L0 z => ?_⟩⟩
  refine hi.se.run B S H σ γ _ R (hi.se.mono γ _ _ (fun d γ1 ⟨q, es, ed, ⟨m, L, g1, l1⟩, I, h0, hst, hd⟩ v S1 H1 R1 e1 d1 => ?_) z)
  subst ed
  obtain rfl := d1.ref_inv
  obtain ⟨xs, h1, d2⟩ := R1.boxL g1 l1
  refine ⟨q, rfl, ⟨xs, SqL.of h1⟩, fun i mm σ H => mm = es.length - i ∧ i ≤ es.length ∧ ∃ S2 γ2, Rel X B S2 H σ γ2 ∧ Same S1 S2 ∧ I i γ2, ⟨es.length, by simp, Nat.zero_le _, S1, γ1, R1, Same.refl S1, h0⟩, ?_⟩
  rintro i mm σ2 H2 ⟨rfl, hi2, S2, γ2, R2, e2, hI⟩
  by_cases hlt : i < es.length
  · obtain ⟨⟨m2, L2, g2, l2⟩, bd⟩ := hst i es[i] γ2 (List.getElem?_eq_getElem hlt) hI
    obtain ⟨xs2, h2, d3⟩ := R2.boxL g2 l2
    have hx2 : i < xs2.length := by rw [d3.1]; exact hlt
    refine .inr ⟨⟨xs2, xs2[i], SqL.of h2, List.getElem?_eq_getElem hx2⟩, fun σ' H' => i + 1 ≤ es.length ∧ ∃ S3 γ3, Rel X B S3 H' σ' γ3 ∧ Same S1 S3 ∧ I (i + 1) γ3, fun σ' H' q => ⟨_, by omega, rfl, q⟩, fun x H' y => ?_⟩
    obtain ⟨eH, y⟩ := y
    subst eH
    have dn := d3.2 i x es[i] (y xs2 (SqL.of h2)) (List.getElem?_eq_getElem hlt)
    refine hg.sg.run B S2 H' σ2 γ2 x _ _ R2 dn (hg.sg.mono _ _ _ _ (fun γ4 bd σ4 R4 => ?_) bd)
    have e6 : Same S0 S1 := e.trans e1
    refine hb.ss.run B S2 S2 H' σ4 γ4 { Dd with nx := I (i + 1), ct := I (i + 1), bk := Dd.nx } _ R4 (Same.refl S2) ⟨fun S6 H6 σ6 γ6 k R6 q => ⟨hlt, S6, γ6, R6, e2.trans k, q⟩, fun S6 H6 σ6 γ6 v r k R6 rv q => L0.rt S6 H6 σ6 γ6 v r (e6.trans (e2.trans k)) R6 rv q, fun S6 H6 σ6 γ6 k R6 q => L0.nx S6 H6 σ6 γ6 (e6.trans (e2.trans k)) R6 q, fun S6 H6 σ6 γ6 k R6 q => ⟨hlt, S6, γ6, R6, e2.trans k, q⟩⟩ bd
  · have e' : i = es.length := by omega
    subst e'
    obtain ⟨⟨m2, L2, g2, l2⟩, bd⟩ := hd γ2 hI
    obtain ⟨xs2, h2, d3⟩ := R2.boxL g2 l2
    exact .inl ⟨⟨xs2, SqL.of h2, by rw [d3.1]; exact Nat.le_refl _⟩, L0.nx S2 H2 σ2 γ2 ((e.trans e1).trans e2) R2 bd⟩
/-- the same with enumerate -/
def dForEB (h : Nat) (w : WA) (wg : WG) (wb : WS) : WS := fun Dd γ => w γ fun ds γ1 => ∃ q es, ds = [.ref q] ∧ OnBox h q es γ1 ∧ ∃ I : Nat → List Sl → Prop, I 0 γ1 ∧
  (∀ (i : Nat) d γ, es[i]? = some d → I i γ → OnBox h q es γ ∧ wg (.tup [.int (i : Nat), d]) γ fun γ2 => wb { Dd with nx := I (i + 1), ct := I (i + 1), bk := Dd.nx } γ2) ∧ ∀ γ, I es.length γ → OnBox h q es γ ∧ Dd.nx γ
theorem ds_forEB (K' : PySem.W.Frag) (h : Nat) {elts : List Expr} {kk : Nat} {tpos : Pos} {ta : TA} {wa : WA} (hp : PassesOwn (model X.prog X.w) X.A X.env X.xe) (hc : X.calm = true) (hm : X.mg "enumerate" = none) (ha : DA X [a] ta wa) (hg : DG X (.Tuple elts kk tpos) g wg) (hb : DSs X body tb wb)
    (hgl : Gl X "enumerate" := by rfl) (hst : starEach [a] X.env = [(false, eval a X.env)] := by rfl) (hs : ∀ x, foldedSetIterable (.Call (.Name "enumerate" p) [a] [] pos) X.env x = pure x := by intro _; rfl) {pos' : Pos} (hK : X.K = K' := by rfl) : DS X (.For (.Tuple elts kk tpos) (.Call (.Name "enumerate" p) [a] [] pos) body [] pos') (tFor (iEnum K' ta) g tb) (dForEB h wa wg wb) := by
  subst hK
  refine ⟨ps_for hp hc (pi_enum hgl hm ha.pa hst) hg.pg hb.ps hs, ⟨fun B S0 S H σ γ Dd D R e L0 z => ?_⟩⟩
  refine ha.sa.run B S H σ γ _ R (ha.sa.mono γ _ _ (fun ds γ1 ⟨q, es, ed, ⟨m, L, g1, l1⟩, I, h0, hstp, hd⟩ vs S1 H1 R1 e1 d1 => ?_) z)
  subst ed
  obtain ⟨v, rfl, dv⟩ := d1.one
  obtain rfl := dv.ref_inv
  obtain ⟨xs, h1, d2⟩ := R1.boxL g1 l1
  refine ⟨q, xs, rfl, SqL.of h1, fun i mm σ H => mm = es.length - i ∧ i ≤ es.length ∧ ∃ S2 γ2, Rel X B S2 H σ γ2 ∧ Same S1 S2 ∧ I i γ2, ⟨es.length, by simp, Nat.zero_le _, S1, γ1, R1, Same.refl S1, h0⟩, ?_⟩
  rintro i mm σ2 H2 ⟨rfl, hi2, S2, γ2, R2, e2, hI⟩
  by_cases hlt : i < es.length
  · obtain ⟨⟨m2, L2, g2, l2⟩, bd⟩ := hstp i es[i] γ2 (List.getElem?_eq_getElem hlt) hI
    obtain ⟨xs2, h2, d3⟩ := R2.boxL g2 l2
    have hx2 : i < xs2.length := by rw [d3.1]; exact hlt
    refine .inr ⟨⟨xs2, xs2[i], SqL.of h2, List.getElem?_eq_getElem hx2⟩, fun σ' H' => i + 1 ≤ es.length ∧ ∃ S3 γ3, Rel X B S3 H' σ' γ3 ∧ Same S1 S3 ∧ I (i + 1) γ3, fun σ' H' q => ⟨_, by omega, rfl, q⟩, fun x H' y => ?_⟩
    obtain ⟨T, x1, f1, f2, f3, f4⟩ := y
    subst f1 f3
    have dn := d3.2 i x1 es[i] (f4 xs2 (SqL.of h2)) (List.getElem?_eq_getElem hlt)
    have e4 : Same S2 (upd S2 T (.tup [.int (i : Nat), x1])) := Same.upd (Same.refl S2) (R2.freshS f2)
    refine hg.sg.run B _ _ σ2 γ2 _ _ _ (R2.new f2) (.ofT upd_same (.cons (.int _) (.cons (dn.mono e4) .nil))) (hg.sg.mono _ _ _ _ (fun γ4 bd σ4 R4 => ?_) bd)
    have e6 : Same S0 S1 := e.trans e1
    have e7 := e2.trans e4
    refine hb.ss.run B _ _ _ σ4 γ4 { Dd with nx := I (i + 1), ct := I (i + 1), bk := Dd.nx } _ R4 (Same.refl _) ⟨fun S6 H6 σ6 γ6 k R6 q => ⟨hlt, S6, γ6, R6, e7.trans k, q⟩, fun S6 H6 σ6 γ6 v r k R6 rv q => L0.rt S6 H6 σ6 γ6 v r (e6.trans (e7.trans k)) R6 rv q, fun S6 H6 σ6 γ6 k R6 q => L0.nx S6 H6 σ6 γ6 (e6.trans (e7.trans k)) R6 q, fun S6 H6 σ6 γ6 k R6 q => ⟨hlt, S6, γ6, R6, e7.trans k, q⟩⟩ bd
  · have e' : i = es.length := by omega
    subst e'
    obtain ⟨⟨m2, L2, g2, l2⟩, bd⟩ := hd γ2 hI
    obtain ⟨xs2, h2, d3⟩ := R2.boxL g2 l2
    exact .inl ⟨⟨xs2, SqL.of h2, by rw [d3.1]; exact Nat.le_refl _⟩, L0.nx S2 H2 σ2 γ2 ((e.trans e1).trans e2) R2 bd⟩
/-! ### clear; an instance frozen -/
def dClrB (h : Nat) (wo : WE) : WS := fun Dd γ => wo γ fun x γ1 => ∃ m L q ds, x = .ref q ∧ γ1[h]? = some (.hp m L) ∧ L q = some (.lst ds) ∧ Dd.nx (γ1.set h (.hp m (updB L q (.lst []))))
/-- an instance in a box of one's own becomes a value -/
def dFrzO (h : Nat) (wa : WE) : WE := fun γ Q => wa γ fun x γ1 => ∃ L q C fs, x = .ref q ∧ γ1[h]? = some (.hp false L) ∧ L q = some (.ins C fs) ∧ Q (.obj C fs) (γ1.set h (.hp false (delB L q)))
theorem de_frzO (h : Nat) (ha : DE X e te we) : DE X e te (dFrzO h we) := by
  refine ⟨ha.pe, fun γ P P' k q => ha.se.mono γ _ _ (fun x γ1 ⟨L, q, C, fs, e, g, l, q'⟩ => ⟨L, q, C, fs, e, g, l, k _ _ q'⟩) q, fun B S H σ γ Q R q => ?_⟩
  refine ha.se.run B S H σ γ _ R (ha.se.mono γ _ _ (fun x γ1 ⟨L, q, C, fs, e, g, l, q'⟩ v S1 H1 R1 e1 d1 => ?_) q)
  subst e
  obtain rfl := d1.ref_inv
  obtain ⟨o, h1, h2, hb, R2⟩ := R1.r.frzB g l
  obtain ⟨dx, vs, rfl, h3⟩ := hb
  have eS : Same S1 (upd S1 q (.ins C dx vs)) := Same.upd (Same.refl S1) h2
  exact q' (.ref q) _ H1 (R1.with R2 eS) (e1.trans eS) (.ofO upd_same (h3.mono eS))
end
end DL

/-! ### methods of values, constructors: promises about boxes -/
namespace DL
open PySem PySem.Spec PyProof.Rows L2
section
variable {X : Xb} {K : PySem.W.Frag} {C f : Addr} {fd : FuncData} {ps : List Str} {k : Nat} {x m : Str} {e o : Expr} {es : List Expr} {t : TA} {w : WA} {ta : TE} {wa : WE} {p pos apos : Pos} {s : SpecB} {pl : Sem Bool}
/-- o.m(), o an instance that is a value -/
def dMethV (h : Nat) (C : Addr) (m : Str) (s : SpecB) (wa : WE) (w : WA) : WE := fun γ Q => wa γ fun x γ1 => ∃ fs, x = .obj C fs ∧ fs.lookup m = none ∧ w γ1 fun ds γ2 => ∃ mm L, γ2[h]? = some (.hp mm L) ∧ s.S (x :: ds) L fun d L' => Q d (γ2.set h (.hp mm L'))
theorem se_methV {h : Nat} (ha : SE X ta wa) (hh : SA X t w) : SE X (tMeth C m (spB X.K s) [] E0 ta t) (dMethV h C m s wa w) := by
  refine ⟨fun γ P P' k q => ha.mono γ _ _ (fun x γ1 ⟨fs, e, n, q'⟩ => ⟨fs, e, n, hh.mono γ1 _ _ (fun ds γ2 ⟨mm, L, g, q⟩ => ⟨mm, L, g, s.mono _ _ _ _ (fun d L' q => k _ _ q) q⟩) q'⟩) q, fun B S H σ γ Q R q => ?_⟩
  refine ha.run B S H σ γ _ R (ha.mono γ _ _ (fun x γ1 ⟨fs, e, n, q'⟩ v S1 H1 R1 e1 d1 => ?_) q)
  subst e
  obtain ⟨a, dx, vs, rfl, h1, h2⟩ := d1.obj_inv
  refine ⟨a, dx, vs, rfl, R1.same _ _ h1, h2.lookNone n, ?_⟩
  refine hh.run B S1 H1 σ γ1 _ R1 (hh.mono γ1 _ _ (fun ds γ2 ⟨mm, L, g, q'⟩ us S2 H2 R2 e2 d2 => ?_) q')
  show spB X.K s (.ref a :: (us ++ [])) H2 Q E0
  rw [List.append_nil]
  exact run_spB R2 g (.cons (d1.mono e2) d2) (s.mono _ _ _ _ (fun d L' q v S' H' R' e' dn => q v S' H' R' (e1.trans (e2.trans e')) dn) q')
theorem de_methV0 (K' : PySem.W.Frag) (h : Nat) (he : DE X o ta wa) (c : Cls X.K C) (hm : Meth X.K C m f) (F : FnOk X.prog X.w X.K X.mg X.base CX0 k f fd ps (spB K' s)) (hr : Room k X.A) (hb : Binds X.K fd ps [])
    (ht : eval (.Call (.Attribute o m apos) [] [] pos) X.env = (do
      let ov ← eval o X.env
      standAt apos.atName
      let (f, first) ← holding [ov] (getMethod ov m pl)
      callWith pos f first (backTo pos (starEach [] X.env)) (backToKw pos (keywordEach [] X.env))) := by rfl) (hK : X.K = K' := by rfl) : DE X (.Call (.Attribute o m apos) [] [] pos) (tMeth C m (spB K' s) [] E0 ta tNil) (dMethV h C m s wa dNil) := by
  subst hK
  exact ⟨pe_meth0 he.pe c hm F hr hb .nil pass0 ht, se_methV he.se da_nil.sa⟩
end
/-- C(e, ..) whose __init__ may raise, also in a try -/
def tMakeS (C : Addr) (sp : Sp) (E : L2.St → XK) (t : TA) : TE := fun σ H Q => tMake C sp [] (E σ) t σ H Q
section
variable {X : Xb} {K : PySem.W.Frag} {C f : Addr} {fd : FuncData} {ps : List Str} {k : Nat} {x : Str} {e : Expr} {es : List Expr} {t : TA} {w : WA} {p pos : Pos} {s : SpecBX}
def dMakeBX (h : Nat) (C : Addr) (s : SpecBX) (dX : Addr → List (Str × D) → List Sl → Prop) (w : WA) : WE := fun γ Q => w γ fun ds γ1 => ∃ m L, γ1[h]? = some (.hp m L) ∧ ∀ p, L p = none → s.S (.ref p :: ds) (updB L p (.ins C [])) (fun d L' => d = .non ∧ Q (.ref p) (γ1.set h (.hp m L'))) fun C fs => ∀ L', dX C fs (γ1.set h (.hp m L'))
end
section
variable {K : PySem.W.Frag} {γ : List Sl} {i h : Nat} {es : List D} {q : Addr} {m : Bool} {L : Bxs} {we wa : WE} {wf : WF} {wt : WT} {wb w : WS} {wA : WA} {wg : WG} {Dd : EndsD} {Q : D → List Sl → Prop} {QF : List D → List Sl → Prop} {QT : Bool → List Sl → Prop} {C : Addr} {mm : Str} {sB : SpecB} {sX : SpecBX} {dX : Addr → List (Str × D) → List Sl → Prop} {P : List Sl → Prop}
instance : Go (dLendRT i h wt γ QT) (LendsR γ i h fun γ1 => wt γ1 fun b _ => QT b γ) := ⟨fun z => z⟩
instance : Go (dLendRE i h we γ Q) (LendsR γ i h fun γ1 => we γ1 fun d _ => flat d ∧ Q d γ) := ⟨fun z => z⟩
instance : Go (dLendRF i h wf γ QF) (LendsR γ i h fun γ1 => wf γ1 fun ds _ => flats ds ∧ QF ds γ) := ⟨fun z => z⟩
instance : Go (dForB h we wg wb Dd γ) (we γ fun d γ1 => ∃ q es, d = .ref q ∧ OnBox h q es γ1 ∧ ∃ I : Nat → List Sl → Prop, I 0 γ1 ∧ (∀ i d γ, es[i]? = some d → I i γ → OnBox h q es γ ∧ wg d γ fun γ2 => wb { Dd with nx := I (i + 1), ct := I (i + 1), bk := Dd.nx } γ2) ∧ ∀ γ, I es.length γ → OnBox h q es γ ∧ Dd.nx γ) := ⟨fun z => z⟩
instance : Go (dForEB h wA wg wb Dd γ) (wA γ fun ds γ1 => ∃ q es, ds = [.ref q] ∧ OnBox h q es γ1 ∧ ∃ I : Nat → List Sl → Prop, I 0 γ1 ∧ (∀ (i : Nat) d γ, es[i]? = some d → I i γ → OnBox h q es γ ∧ wg (.tup [.int (i : Nat), d]) γ fun γ2 => wb { Dd with nx := I (i + 1), ct := I (i + 1), bk := Dd.nx } γ2) ∧ ∀ γ, I es.length γ → OnBox h q es γ ∧ Dd.nx γ) := ⟨fun z => z⟩
instance : Go (dClrB h we Dd γ) (we γ fun x γ1 => ∃ m L q ds, x = .ref q ∧ γ1[h]? = some (.hp m L) ∧ L q = some (.lst ds) ∧ Dd.nx (γ1.set h (.hp m (updB L q (.lst []))))) := ⟨fun z => z⟩
instance : Go (dFrzO h wa γ Q) (wa γ fun x γ1 => ∃ L q C fs, x = .ref q ∧ γ1[h]? = some (.hp false L) ∧ L q = some (.ins C fs) ∧ Q (.obj C fs) (γ1.set h (.hp false (delB L q)))) := ⟨fun z => z⟩
instance : Go (dMethV h C mm sB wa wA γ Q) (wa γ fun x γ1 => ∃ fs, x = .obj C fs ∧ fs.lookup mm = none ∧ wA γ1 fun ds γ2 => ∃ m L, γ2[h]? = some (.hp m L) ∧ sB.S (x :: ds) L fun d L' => Q d (γ2.set h (.hp m L'))) := ⟨fun z => z⟩
instance : Go (dMakeBX h C sX dX wA γ Q) (wA γ fun ds γ1 => ∃ m L, γ1[h]? = some (.hp m L) ∧ ∀ p, L p = none → sX.S (.ref p :: ds) (updB L p (.ins C [])) (fun d L' => d = .non ∧ Q (.ref p) (γ1.set h (.hp m L'))) fun C fs => ∀ L', dX C fs (γ1.set h (.hp m L'))) := ⟨fun z => z⟩
theorem i_onBox (g : γ[h]? = some (.hp m L)) (l : L q = some (.lst es)) : OnBox h q es γ := ⟨m, L, g, l⟩
end
end DL
set_option Elab.async false
set_option linter.all false
set_option autoImplicit false
set_option maxRecDepth 100000
set_option maxHeartbeats 4000000
/-! DL55: isinstance of a caught exception. -/
namespace DL
open PySem PySem.Spec PyProof.Rows L2 He
section
variable {X : Xb}
/-- x = [..], a comprehension given to a name, put into a box -/
theorem ds_setLcB (h0 : Nat) {i : Nat} {y : Str} {py : Pos} {elt tg iter : Expr} {ifs : List Expr} {scope : Scope} {own : List (Str × Nat)} {pos spos : Pos} {ti : TI} {wi : WA} {g : TG} {wg : WG} {tt : TT} {wt : WT} {te : TE} {we : WE} (hc : X.calm = true) (hN : X.N.Nodup)
    (hi : DI X tg iter ti wi) (ok : BlkOk X.N X.env.scope scope own)
    (hg : ∀ (s : Shared) (H : Hp) (C : Addr) (cl : List (Str × Addr)) (fp : List Addr), DG (X.blk s H scope (compEnvC scope cl C X.env) fp) tg g wg) (hgi : GIn g (own.map (·.2))) (hgm : GMo g)
    (ht : ∀ (s : Shared) (H : Hp) (C : Addr) (cl : List (Str × Addr)) (fp : List Addr), DTs (X.blk s H scope (compEnvC scope cl C X.env) fp) ifs tt wt)
    (he : ∀ (s : Shared) (H : Hp) (C : Addr) (cl : List (Str × Addr)) (fp : List Addr), DE (X.blk s H scope (compEnvC scope cl C X.env) fp) elt te we)
    (hy : X.N[i]? = some y := by rfl) (hyl : X.env.scope.names.lookup y = some .local := by rfl)
    (hsw : swapsWith (.ListComp elt [⟨tg, iter, ifs, 0⟩] scope pos) (some (.Name y py)) spos.line X.env = pure true := by exact sw_true rfl rfl rfl (by decide +kernel)) (hs : ∀ x, foldedSetIterable iter X.env x = pure x := by intro _; rfl) :
    DS X (.Assign [.Name y py] (.ListComp elt [⟨tg, iter, ifs, 0⟩] scope pos) spos) (tAsg (tLc ti g tt te (own.map (·.2))) (gName i)) (dSet i (dNewB h0 (dLc wi wg wt we (own.map (·.2))))) :=
  have h : SF X (tLc ti g tt te (own.map (·.2))) (dLc wi wg wt we (own.map (·.2))) := sf_lc hi.si (hg X.s_0 X.H_0 0 [] []).sg.ofBlk hgi hgm (ht X.s_0 X.H_0 0 [] []).st.ofBlk (he X.s_0 X.H_0 0 [] []).se.ofBlk
  ⟨ps_setLc hc hN hy hyl hsw hi.pi ok (fun s H C cl fp => (hg s H C cl fp).pg) (fun s H C cl fp => (ht s H C cl fp).pt) (fun s H C cl fp => (he s H C cl fp).pe) hs,
   ⟨fun B S0 S H σ γ Dd D R e L q => h.run B S H σ γ _ R (h.mono γ _ _ (fun ds γ1 ⟨m, Lb, g, q'⟩ p xs S1 H1 R1 e1 d1 => by
      obtain ⟨R2, hp⟩ := R1.addB (b := .lst ds) g ⟨xs, rfl, d1⟩
      exact L.nx S1 H1 _ _ (e.trans e1) (R2.set (s := .val (.ref p)) ⟨.ref p, rfl, .ref p⟩ rfl) (q' p hp)) q)⟩⟩
end
/-- what isinstance asks of an own exception class -/
structure XisC (K : PySem.W.Frag) (C : Addr) : Prop where
  cl : (PySem.W.clsIn K C).isSome = true
  ga : PySem.W.findIn K (.ref C) "__getattribute__" = some (some (.builtin "BaseException.__getattribute__"))
  gg : PySem.W.findIn K (.ref C) "__getattr__" = some none
  sb : PySem.W.subIn K (.ref C) (.type "BaseException") = some true
  ca : PySem.W.findIn K (.ref C) "__class__" = some (some (.builtin "object.__class__"))
  gt : PySem.W.specialIn K (.builtin "object.__class__") "__get__" = some (some (.builtin "getset_descriptor.__get__"))
  tk : PySem.W.takesIn K (.builtin "object.__class__") = some true
  ob : PySem.W.mroIn K C (.type "object") = some true
def rIsX (K : PySem.W.Frag) (cls : Value) (C a : Addr) (d : Option Addr) : List V → Hp → VK → Prop := fun xs H Q => ∃ (T : Addr) (b : Bool), xs = [.ref a, .ref T] ∧ cls = .ref C ∧ (d = none ∨ ∃ dd ws, d = some dd ∧ H dd = some (.xd ws)) ∧ PySem.W.kitOne K (.ref C) (.ref T) = some b ∧ Q (.bl b) H
section
variable {X : Xb} {C T : Addr} {i : Nat} {x y : Str} {p px py pos : Pos}
/-- isinstance(e, T), e the caught exception at slot i -/
def dIsX (K : PySem.W.Frag) (C T a : Addr) (i : Nat) : WE := fun γ Q => γ[i]? = some (.val (.ref a)) ∧ ∃ b, PySem.W.kitOne K (.ref C) (.ref T) = some b ∧ Q (.bl b) γ
end
section
variable {K : PySem.W.Frag} {γ : List Sl} {C T a : Addr} {i : Nat} {Q : D → List Sl → Prop}
instance : Go (dIsX K C T a i γ Q) (γ[i]? = some (.val (.ref a)) ∧ ∃ b, PySem.W.kitOne K (.ref C) (.ref T) = some b ∧ Q (.bl b) γ) := ⟨fun z => z⟩
end
end DL
set_option Elab.async false
set_option linter.all false
set_option autoImplicit false
set_option maxRecDepth 100000
set_option maxHeartbeats 4000000
/-! DL56: o[k] of an instance of an own class with __getitem__ (which may raise, and may tell boxes). -/
namespace DL
open PySem PySem.Spec PyProof.Rows L2
section
variable {X : Xb} {pins : List (Addr × Obj)} {σ : L2.St} {H : Hp} {s : Shared} {A : Around} {CX : CXT} {n : Nat} {f C : Addr} {fd : FuncData} {ps : List Str} {sp : Sp} {E : XK} {Q : VK}
end
def tIxS (C : Addr) (sp : Sp) (E : L2.St → XK) (ta tb : TE) : TE := fun σ H Q => ta σ H fun x H1 => tb σ H1 fun y H2 => ∃ a dx fs, x = .ref a ∧ H2 a = some (.ins C dx fs) ∧ sp [.ref a, y] H2 Q (E σ)
section
variable {X : Xb} {K : PySem.W.Frag} {C f : Addr} {fd : FuncData} {ps : List Str} {k : Nat} {a b : Expr} {ta tb : TE} {wa wb : WE} {pos : Pos} {s : SpecBX}
/-- o[k], o an instance that is a value -/
def dIxBX (h : Nat) (C : Addr) (s : SpecBX) (dX : Addr → List (Str × D) → List Sl → Prop) (wa wb : WE) : WE := fun γ Q => wa γ fun x γ1 => wb γ1 fun y γ2 => ∃ fs m L, x = .obj C fs ∧ γ2[h]? = some (.hp m L) ∧ s.S [x, y] L (fun d L' => Q d (γ2.set h (.hp m L'))) fun C' fs' => ∀ L', dX C' fs' (γ2.set h (.hp m L'))
end
section
variable {γ : List Sl} {h : Nat} {wa wb : WE} {Q : D → List Sl → Prop} {C : Addr} {sX : SpecBX} {dX : Addr → List (Str × D) → List Sl → Prop}
instance : Go (dIxBX h C sX dX wa wb γ Q) (wa γ fun x γ1 => wb γ1 fun y γ2 => ∃ fs m L, x = .obj C fs ∧ γ2[h]? = some (.hp m L) ∧ sX.S [x, y] L (fun d L' => Q d (γ2.set h (.hp m L'))) fun C' fs' => ∀ L', dX C' fs' (γ2.set h (.hp m L'))) := ⟨fun z => z⟩
end
/-! ### tuples with a box, or with none -/
section
variable {X : Xb} {e : Expr} {te : TE} {we : WE} {tt : TT} {wt : WT}
def dLendBoT (i h : Nat) (wt : WT) : WT := fun γ Q => LendsB γ i h (fun γ1 => wt γ1 fun b _ => Q b γ) ∨ ((∃ ds, γ[i]? = some (.val (.tup ds))) ∧ wt γ Q)
/-- a tuple with a box of one's own becomes a value -/
def dFrzTE (h : Nat) (wa : WE) : WE := fun γ Q => wa γ fun x γ1 => (∃ pre q post es L, x = .tup (pre ++ .ref q :: post) ∧ γ1[h]? = some (.hp false L) ∧ L q = some (.lst es) ∧ Q (.tup (pre ++ .lst es :: post)) (γ1.set h (.hp false (delB L q)))) ∨ Q x γ1
end
section
variable {γ : List Sl} {i h : Nat} {we : WE} {wt : WT} {Q : D → List Sl → Prop} {QT : Bool → List Sl → Prop}
instance : Go (dLendBoT i h wt γ QT) (LendsB γ i h (fun γ1 => wt γ1 fun b _ => QT b γ) ∨ ((∃ ds, γ[i]? = some (.val (.tup ds))) ∧ wt γ QT)) := ⟨fun z => z⟩
instance : Go (dFrzTE h we γ Q) (we γ fun x γ1 => (∃ pre q post es L, x = .tup (pre ++ .ref q :: post) ∧ γ1[h]? = some (.hp false L) ∧ L q = some (.lst es) ∧ Q (.tup (pre ++ .lst es :: post)) (γ1.set h (.hp false (delB L q)))) ∨ Q x γ1) := ⟨fun z => z⟩
end
/-! ### x in l, nested data -/
def fInD (x y : D) (Q : D → Prop) : Prop := ∃ ds, y = .lst ds ∧ PlD x ∧ PlD y ∧ Q (.bl (ds.any fun z => eqD z x))
section
variable {X : Xb} {a b : Expr} {ta tb : TE} {wa wb : WE} {pos : Pos} {k : Nat}
end
/-! ### x is not False, x of any kind -/
def rNotBx : R2 := fun x y H Q => ∃ b : Bool, y = .bl b ∧ Q (.bl (!decide (x = .bl b))) H
def isBlD (x : D) (b : Bool) : Bool := match x with
  | .bl a => decide (a = b)
  | _ => false
def fNotBx (x y : D) (Q : D → Prop) : Prop := ∃ b, y = .bl b ∧ Q (.bl (!isBlD x b))
section
variable {X : Xb} {a b : Expr} {ta tb : TE} {wa wb : WE} {pos : Pos}
end
end DL
set_option Elab.async false
set_option linter.all false
set_option autoImplicit false
set_option maxRecDepth 100000
set_option maxHeartbeats 4000000
/-! DL57: dicts with text keys in boxes. -/
namespace DL
open PySem PySem.Spec PyProof.Rows L2
abbrev kvT (vs : List (Str × V)) : List (Key × V) := vs.map fun p => (.inr p.1, p.2)
/-- an item set at a key that is there -/
def putA (f : Str) (d : D) (fs : List (Str × D)) : List (Str × D) := fs.map fun p => if p.1 = f then (f, d) else p
theorem DenF.putA {S : Hp} {f : Str} {v : V} {d : D} : ∀ {vs : List (Str × V)} {fs : List (Str × D)}, DenF S vs fs → Den S v d → DenF S (vs.map fun p => if p.1 = f then (f, v) else p) (DL.putA f d fs)
  | [], [], h, _ => h
  | [], _ :: _, h, _ => by have := h.1; simp at this
  | _ :: _, [], h, _ => by have := h.1; simp at this
  | (g, x) :: vs, (k, y) :: fs, t, h => by
    obtain ⟨h1, h2⟩ := t.head
    have h1 : g = k := h1
    subst h1
    unfold DL.putA
    rw [List.map_cons, List.map_cons]
    by_cases q : g = f
    · rw [if_pos q, if_pos q]; exact .cons rfl h (t.tail.putA h)
    · rw [if_neg q, if_neg q]; exact .cons rfl h2 (t.tail.putA h)
section
variable {X : Xb} {B : Bs} {S S' F H H' : Hp} {σ : L2.St} {γ : List Sl} {p : Addr} {o : HO} {i : Nat} {m : Bool} {L L' : Bxs} {b b0 : Bx}
end
section
variable {X : Xb} {K : PySem.W.Frag} {a b c e o : Expr} {es : List Expr} {ta tb tc te to tk : TE} {wa wb wc we wo wk : WE} {t : TA} {w : WA} {pos p p1 p2 tpos : Pos} {f : Str} {kk : Nat}
/-- d["k"], d a dict in a box -/
def dDgB (h : Nat) (wa wb : WE) : WE := fun γ Q => wa γ fun x γ1 => wb γ1 fun y γ2 => ∃ m L q fs f d, x = .ref q ∧ y = .str f ∧ γ2[h]? = some (.hp m L) ∧ L q = some (.dct fs) ∧ fs.lookup f = some d ∧ Q d γ2
/-- d["k"] = e, d a dict in a box that has the key -/
def dDpB (h : Nat) (we wo wk : WE) : WS := fun Dd γ => we γ fun d γ1 => wo γ1 fun x γ2 => wk γ2 fun y γ3 => ∃ m L q fs f, x = .ref q ∧ y = .str f ∧ γ3[h]? = some (.hp m L) ∧ L q = some (.dct fs) ∧ (fs.lookup f).isSome = true ∧ fs.length < sizeLine ∧ Dd.nx (γ3.set h (.hp m (updB L q (.dct (putA f d fs)))))
/-! {k: v, ..}, put into a box -/
def DenPs (S : Hp) : List (V × V) → List (D × D) → Prop
  | [], [] => True
  | x :: r, y :: s => Den S x.1 y.1 ∧ Den S x.2 y.2 ∧ DenPs S r s
  | _, _ => False
theorem DenPs.mono {S S' : Hp} (e : Same S S') : ∀ {vs : List (V × V)} {ps : List (D × D)}, DenPs S vs ps → DenPs S' vs ps
  | [], [], _ => trivial
  | _ :: _, _ :: _, h => ⟨h.1.mono e, h.2.1.mono e, h.2.2.mono e⟩
  | [], _ :: _, h => h.elim
  | _ :: _, [], h => h.elim
theorem DenPs.split {S : Hp} : ∀ {vs : List (V × V)} {fs : List (Str × D)}, DenPs S vs (fs.map fun p => (.str p.1, p.2)) → ∃ ws : List (Str × V), vs = ws.map (fun p => (V.str p.1, p.2)) ∧ DenF S ws fs
  | [], [], _ => ⟨[], rfl, .nil⟩
  | [], _ :: _, h => h.elim
  | _ :: _, [], h => h.elim
  | (x, y) :: vs, (f, d) :: fs, h => by
    obtain ⟨h1, h2, h3⟩ := h
    obtain ⟨ws, e, k⟩ := h3.split
    have h1 : Den S x (.str f) := h1
    cases h1
    exact ⟨(f, y) :: ws, by rw [e]; rfl, .cons rfl h2 k⟩
abbrev WPs := List Sl → (List (D × D) → List Sl → Prop) → Prop
structure DPs (X : Xb) (pos : Pos) (keys : List (Option Expr)) (values : List Expr) (trs : List (TE × TE)) (w : WPs) : Prop where
  pp : PPs X pos keys values trs
  mono : ∀ γ P P', (∀ ps γ, P ps γ → P' ps γ) → w γ P → w γ P'
  run : ∀ B S H σ γ (Q : List (V × V) → Hp → Prop), Rel X B S H σ γ → w γ (fun ps γ' => ∀ vs S' H', Rel X B S' H' σ γ' → Same S S' → DenPs S' vs ps → Q vs H') → tPairs trs σ H Q
def dPs0 : WPs := fun γ Q => Q [] γ
def dPsC (wa wb : WE) (w : WPs) : WPs := fun γ Q => wa γ fun x γ1 => wb γ1 fun y γ2 => w γ2 fun ps γ3 => Q ((x, y) :: ps) γ3
def dDisp (h : Nat) (w : WPs) : WE := fun γ Q => w γ fun ps γ1 => ∃ m L fs, ps = fs.map (fun p : Str × D => (D.str p.1, p.2)) ∧ (fs.map (·.1)).Nodup ∧ fs.length ≤ 15 ∧ γ1[h]? = some (.hp m L) ∧ ∀ p, L p = none → Q (.ref p) (γ1.set h (.hp m (updB L p (.dct fs))))
theorem DenF.names {S : Hp} : ∀ {vs : List (Str × V)} {fs : List (Str × D)}, DenF S vs fs → vs.map (·.1) = fs.map (·.1)
  | [], [], _ => rfl
  | [], _ :: _, h => by have := h.1; simp at this
  | _ :: _, [], h => by have := h.1; simp at this
  | _ :: _, _ :: _, h => by rw [List.map_cons, List.map_cons, h.head.1, h.tail.names]
end
end DL
namespace DL
open PySem PySem.Spec PyProof.Rows L2
section
variable {K : PySem.W.Frag} {γ : List Sl} {h : Nat} {m mm : Bool} {L : Bxs} {q : Addr} {fs : List (Str × D)} {f : Str} {d : D} {wa wb we wo wk : WE} {wp : WPs} {Q : D → List Sl → Prop} {QP : List (D × D) → List Sl → Prop} {Dd : EndsD}
instance : Go (dDgB h wa wb γ Q) (wa γ fun x γ1 => wb γ1 fun y γ2 => ∃ m L q fs f d, x = .ref q ∧ y = .str f ∧ γ2[h]? = some (.hp m L) ∧ L q = some (.dct fs) ∧ fs.lookup f = some d ∧ Q d γ2) := ⟨fun z => z⟩
instance : Go (dDpB h we wo wk Dd γ) (we γ fun d γ1 => wo γ1 fun x γ2 => wk γ2 fun y γ3 => ∃ m L q fs f, x = .ref q ∧ y = .str f ∧ γ3[h]? = some (.hp m L) ∧ L q = some (.dct fs) ∧ (fs.lookup f).isSome = true ∧ fs.length < sizeLine ∧ Dd.nx (γ3.set h (.hp m (updB L q (.dct (putA f d fs)))))) := ⟨fun z => z⟩
instance : Go (dDisp h wp γ Q) (wp γ fun ps γ1 => ∃ m L fs, ps = fs.map (fun p : Str × D => (D.str p.1, p.2)) ∧ (fs.map (·.1)).Nodup ∧ fs.length ≤ 15 ∧ γ1[h]? = some (.hp m L) ∧ ∀ p, L p = none → Q (.ref p) (γ1.set h (.hp m (updB L p (.dct fs))))) := ⟨fun z => z⟩
instance : Go (dPs0 γ QP) (QP [] γ) := ⟨fun z => z⟩
instance : Go (dPsC wa wb wp γ QP) (wa γ fun x γ1 => wb γ1 fun y γ2 => wp γ2 fun ps γ3 => QP ((x, y) :: ps) γ3) := ⟨fun z => z⟩
end
end DL
set_option Elab.async false
set_option linter.all false
set_option autoImplicit false
set_option maxRecDepth 100000
set_option maxHeartbeats 4000000
/-! DL58: defs of the script with further values, with boxes; boxes within values and boxes become values. -/
namespace DL
open PySem PySem.Spec PyProof.Rows L2
mutual
/-- the box at q told as a list, wherever it stands -/
def subD (q : Addr) (es : List D) : D → D
  | .ref p => if p = q then .lst es else .ref p
  | .lst ds => .lst (subL q es ds)
  | .tup ds => .tup (subL q es ds)
  | .non => .non
  | .bl b => .bl b
  | .int i => .int i
  | .str s => .str s
  | .obj C fs => .obj C fs
  | .emp => .emp
def subL (q : Addr) (es : List D) : List D → List D
  | [] => []
  | d :: r => subD q es d :: subL q es r
end
section
variable {S S' : Hp} {q : Addr} {es : List D} (e : Same S S') (h : Den S' (.ref q) (.lst es))
include e h
mutual
theorem Den.sub : ∀ (d : D) (v : V), Den S v d → Den S' v (subD q es d)
  | .ref p, v, k => by
    obtain rfl := k.ref_inv
    unfold subD
    by_cases z : p = q
    · rw [if_pos z, z]; exact h
    · rw [if_neg z]; exact .ref p
  | .lst ds, v, k => by
    obtain ⟨a, xs, rfl, h1, h2⟩ := k.lst_inv
    unfold subD
    exact .ofL (e _ _ h1) (DenL.sub ds xs h2)
  | .tup ds, v, k => by
    obtain ⟨a, xs, rfl, h1, h2⟩ := k.tup_inv
    unfold subD
    exact .ofT (e _ _ h1) (DenL.sub ds xs h2)
  | .non, v, k => by unfold subD; exact k.mono e
  | .bl b, v, k => by unfold subD; exact k.mono e
  | .int i, v, k => by unfold subD; exact k.mono e
  | .str s, v, k => by unfold subD; exact k.mono e
  | .obj C fs, v, k => by unfold subD; exact k.mono e
  | .emp, v, k => by unfold subD; exact k.mono e
theorem DenL.sub : ∀ (ds : List D) (vs : List V), DenL S vs ds → DenL S' vs (subL q es ds)
  | [], vs, k => by
    obtain rfl : vs = [] := List.length_eq_zero_iff.mp k.1
    unfold subL
    exact .nil
  | d :: r, [], k => by have := k.1; simp at this
  | d :: r, v :: vs, k => by
    unfold subL
    exact .cons (Den.sub d v (k.2 0 v d rfl rfl)) (DenL.sub r vs ⟨by have := k.1; simpa using this, fun i x y h1 h2 => k.2 (i + 1) x y (by simpa using h1) (by simpa using h2)⟩)
end
end
section
variable {X : Xb} {sts : List Stmt} {t : TS} {w : WS}
/-- from here on the box q in slot i's value is a list, its value -/
def dFrzS (i h : Nat) (w : WS) : WS := fun Dd γ => ∃ d q es L, γ[i]? = some (.val d) ∧ γ[h]? = some (.hp false L) ∧ L q = some (.lst es) ∧ w Dd ((γ.set h (.hp false (delB L q))).set i (.val (subD q es d)))
/-- from here on the box q in the box p is a list, its value -/
def dFrzI (h : Nat) (w : WS) : WS := fun Dd γ => ∃ p q ds es L, γ[h]? = some (.hp false L) ∧ L p = some (.lst ds) ∧ L q = some (.lst es) ∧ p ≠ q ∧ w Dd (γ.set h (.hp false (updB (delB L q) p (.lst (subL q es ds)))))
end
section
variable {γ : List Sl} {i h : Nat} {d : D} {ds es : List D} {p q : Addr} {L : Bxs} {w : WS} {Dd : EndsD}
end
/-! ### defs of the script and of values -/
structure SpecVS where
  S : List Int → List D → (Rv → Prop) → Prop
  mono : ∀ ns ds P P', (∀ r, P r → P' r) → S ns ds P → S ns ds P'
def SpecVS.fn {α : Type} (args : α → List D) (pre : α → List Int → Prop) (post : α → List Int → Rv → Prop) : SpecVS := ⟨fun ns ds Q => ∃ a, ds = args a ∧ pre a ns ∧ ∀ r, post a ns r → Q r, fun ns ds P P' k ⟨a, e, h, q⟩ => ⟨a, e, h, fun r z => k _ (q r z)⟩⟩
def spVS (K : PySem.W.Frag) (s : SpecVS) : Sp := fun vs H Q _ => ∃ S a ns vs' ds, vs = .ref a :: vs' ∧ Same S H ∧ SqL K S a (ns.map V.int) ∧ DenL S vs' ds ∧ s.S ns ds fun r => ∀ v S' H', Rel0 K ⟨H, S, [], [], emptyH⟩ S' H' [] [] → RvOk ⟨H, S, [], [], emptyH⟩ S' H' v r → Q v H'
structure SpecBS where
  S : List Int → List D → Bxs → (D → Bxs → Prop) → Prop
  mono : ∀ ns ds L P P', (∀ d L', P d L' → P' d L') → S ns ds L P → S ns ds L P'
def SpecBS.fn {α : Type} (args : α → List D) (pre : α → List Int → Bxs → Prop) (post : α → List Int → D → Bxs → Bxs → Prop) : SpecBS := ⟨fun ns ds L Q => ∃ a, ds = args a ∧ pre a ns L ∧ ∀ d L', post a ns d L L' → Q d L', fun ns ds L P P' k ⟨a, e, h, q⟩ => ⟨a, e, h, fun d L' z => k _ _ (q d L' z)⟩⟩
def spBS (K : PySem.W.Frag) (s : SpecBS) : Sp := fun vs H Q _ => ∃ S mu L a ns vs' ds, vs = .ref a :: vs' ∧ Same S H ∧ SqL K S a (ns.map V.int) ∧ (∀ a, a ∈ mu ↔ L a ≠ none) ∧ (∀ p b, L p = some b → S p = none ∧ BxOk S (H p) (some b)) ∧ DenL S vs' ds ∧
  s.S ns ds L fun d L' => ∀ v S' H', Rel0 K ⟨H, S, mu, [], emptyH⟩ S' H' [] [] → BxsOut S' H' L' mu H → Den S' v d → Q v H'
section
variable {X : Xb} {K : PySem.W.Frag} {f : Addr} {fd : FuncData} {ps : List Str} {k : Nat} {x y : Str} {es : List Expr} {t : TA} {w : WA} {p pos py : Pos} {s : SpecVS} {b : SpecBS}
def dCallVS (i : Nat) (s : SpecVS) (w : WA) : WE := fun γ Q => (∃ ns, γ[i]? = some (.scr ns)) ∧ w γ fun ds γ1 => ∃ ns, γ1[i]? = some (.scr ns) ∧ s.S ns ds fun r => ∃ d, r = .d d ∧ Q d γ1
def dCallVSF (i : Nat) (s : SpecVS) (w : WA) : WF := fun γ Q => (∃ ns, γ[i]? = some (.scr ns)) ∧ w γ fun ds γ1 => ∃ ns, γ1[i]? = some (.scr ns) ∧ s.S ns ds fun r => ∃ es, r = .f es ∧ Q es γ1
def dCallBS (i h : Nat) (s : SpecBS) (w : WA) : WE := fun γ Q => (∃ ns, γ[i]? = some (.scr ns)) ∧ w γ fun ds γ1 => ∃ ns m L, γ1[i]? = some (.scr ns) ∧ γ1[h]? = some (.hp m L) ∧ s.S ns ds L fun d L' => Q d (γ1.set h (.hp m L'))
end
def gamVS (N : List Str) (ns : List Int) (ds : List D) : List Sl := (gam N (.non :: ds)).set 0 (.scr ns)
def gamBS (N : List Str) (ns : List Int) (ds : List D) (L : Bxs) : List Sl := (gamB N (.non :: ds) L).set 0 (.scr ns)
section
variable {P : Program} {w : World} {K : PySem.W.Frag} {mg : Str → Option Value} {base : Heap} {x qual : Str} {st : Stmt} {f : Addr} {fd : FuncData} {N ps : List Str} {k : Nat}
end
section
variable {γ : List Sl} {i h : Nat} {s : SpecVS} {b : SpecBS} {w : WA} {Q : D → List Sl → Prop} {QF : List D → List Sl → Prop} {ns : List Int} {m : Bool} {L : Bxs}
end
end DL
set_option Elab.async false
set_option linter.all false
set_option autoImplicit false
set_option maxRecDepth 100000
set_option maxHeartbeats 4000000
/-! DL59: list(o), tuple(o) of a list in a box; min of two. -/
namespace DL
open PySem PySem.Spec PyProof.Rows L2
section
variable {X : Xb} {K : PySem.W.Frag} {a b c e : Expr} {ta tb tc te : TE} {wa wb wc we : WE} {pos p : Pos}
def dListB (h : Nat) (wa : WE) : WF := fun γ Q => wa γ fun x γ1 => ∃ m L q ds, x = .ref q ∧ γ1[h]? = some (.hp m L) ∧ L q = some (.lst ds) ∧ Q ds γ1
theorem df_listB (K' : PySem.W.Frag) (h : Nat) (hm : X.mg "list" = none) (ha : DE X a ta wa) (hg : Gl X "list" := by rfl) (he : starEach (a :: []) X.env = (false, eval a X.env) :: starEach [] X.env := by rfl) (hK : X.K = K' := by rfl) : DF X (.Call (.Name "list" p) [a] [] pos) (tCB (fun xs H Q => ∃ p ys, xs = [.ref p] ∧ (SqL K' H p ys ∨ SqT K' H p ys) ∧ ∀ l, H l = none → Q (.ref l) (upd H l (.lst ys))) (tCons ta tNil)) (dListB h wa) := by
  subst hK
  refine ⟨pe_callTy call_list_of hg hm (by decide +kernel) (pa_cons ha.pe pa_nil he) (by decide) (by decide) he, fun γ P P' k q => ha.se.mono γ _ _ (fun x γ1 ⟨m, L, q, ds, e, g, l, z⟩ => ⟨m, L, q, ds, e, g, l, k _ _ z⟩) q, fun B S H σ γ Q R q => ?_⟩
  refine ha.se.run B S H σ γ _ R (ha.se.mono γ _ _ (fun x γ1 ⟨m, L, q, ds, e, g, l, z⟩ v S1 H1 R1 e1 d1 => ?_) q)
  subst e
  obtain rfl := d1.ref_inv
  obtain ⟨xs, h1, h2⟩ := R1.boxL g l
  exact ⟨q, xs, rfl, .inl (SqL.of h1), fun l hl => z l xs S1 _ (R1.newF hl) e1 h2⟩
def dTupB (h : Nat) (wa : WE) : WE := fun γ Q => wa γ fun x γ1 => ∃ m L q ds, x = .ref q ∧ γ1[h]? = some (.hp m L) ∧ L q = some (.lst ds) ∧ Q (.tup ds) γ1
def minD (ds : List D) (Q : D → Prop) : Prop := ∃ i j, ds = [.int i, .int j] ∧ Q (.int (if j < i then j else i))
end
section
variable {γ : List Sl} {h : Nat} {wa : WE} {Q : D → List Sl → Prop} {QF : List D → List Sl → Prop} {m : Bool} {L : Bxs} {q : Addr} {es : List D}
instance : Go (dListB h wa γ QF) (wa γ fun x γ1 => ∃ m L q ds, x = .ref q ∧ γ1[h]? = some (.hp m L) ∧ L q = some (.lst ds) ∧ QF ds γ1) := ⟨fun z => z⟩
instance : Go (dTupB h wa γ Q) (wa γ fun x γ1 => ∃ m L q ds, x = .ref q ∧ γ1[h]? = some (.hp m L) ∧ L q = some (.lst ds) ∧ Q (.tup ds) γ1) := ⟨fun z => z⟩
theorem i_listB2 {F : List D → Prop} (g : γ[h]? = some (.hp m L)) (l : L q = some (.lst es)) (k : F es) : ∃ m L q' ds, D.ref q = .ref q' ∧ γ[h]? = some (.hp m L) ∧ L q' = some (.lst ds) ∧ F ds := ⟨m, L, q, es, rfl, g, l, k⟩
end
end DL
set_option Elab.async false
set_option linter.all false
set_option autoImplicit false
set_option maxRecDepth 100000
set_option maxHeartbeats 4000000
/-! DL60: except T as e, where an exception of a class under T comes; isinstance of it with a class of the language. -/
namespace DL
open PySem PySem.Spec PyProof.Rows L2 He
def dTryAsR (K : PySem.W.Frag) (CR C : Addr) (i : Nat) (wb : (Addr → List (Str × D) → List Sl → Prop) → WS) (wsu : Addr → List (Str × D) → WS) (dX : Addr → List (Str × D) → List Sl → Prop) : WS := fun Dd γ =>
  wb (fun C' fs γ1 => (C' = CR ∧ ∀ a, wsu a fs { nx := fun γ2 => Dd.nx (γ2.set i .any), rt := Dd.rt, bk := fun γ2 => Dd.bk (γ2.set i .any), ct := fun γ2 => Dd.ct (γ2.set i .any) } (γ1.set i (.val (.ref a)))) ∨ (PySem.W.exmOne K (.ref C') (.ref C) = some false ∧ dX C' fs γ1)) Dd γ
section
variable {X : Xb} {i : Nat} {n x : Str} {body suite : List Stmt} {b₀ : Stmt} {np pos pos' : Pos} {tb : WX → TS} {ts : Addr → Value → Option Addr → TS} {wb : (Addr → List (Str × D) → List Sl → Prop) → WS} {wsu : Addr → List (Str × D) → WS} {C CR : Addr}
end
def rIsXT (K : PySem.W.Frag) (cls : Value) (C a : Addr) (d : Option Addr) : List V → Hp → VK → Prop := fun xs H Q => ∃ (T : String) (b : Bool), xs = [.ref a, .ty T] ∧ cls = .ref C ∧ (d = none ∨ ∃ dd ws, d = some dd ∧ H dd = some (.xd ws)) ∧ PySem.W.kitOne K (.ref C) (.type T) = some b ∧ Q (.bl b) H
section
variable {X : Xb} {C : Addr} {T : String} {i : Nat} {x y : Str} {p px py pos : Pos}
/-- isinstance(e, T), e the caught exception at slot i -/
def dIsXT (K : PySem.W.Frag) (C : Addr) (T : String) (a : Addr) (i : Nat) : WE := fun γ Q => γ[i]? = some (.val (.ref a)) ∧ ∃ b, PySem.W.kitOne K (.ref C) (.type T) = some b ∧ Q (.bl b) γ
end
section
variable {K : PySem.W.Frag} {γ : List Sl} {C a : Addr} {T : String} {i : Nat} {Q : D → List Sl → Prop}
instance : Go (dIsXT K C T a i γ Q) (γ[i]? = some (.val (.ref a)) ∧ ∃ b, PySem.W.kitOne K (.ref C) (.type T) = some b ∧ Q (.bl b) γ) := ⟨fun z => z⟩
end
section
variable {K : PySem.W.Frag} {C CR : Addr} {i : Nat} {wb : (Addr → List (Str × D) → List Sl → Prop) → WS} {wsu : Addr → List (Str × D) → WS} {dX : Addr → List (Str × D) → List Sl → Prop} {Dd : EndsD} {γ : List Sl}
instance : Go (dTryAsR K CR C i wb wsu dX Dd γ) (wb (fun C' fs γ1 => (C' = CR ∧ ∀ a, wsu a fs { nx := fun γ2 => Dd.nx (γ2.set i .any), rt := Dd.rt, bk := fun γ2 => Dd.bk (γ2.set i .any), ct := fun γ2 => Dd.ct (γ2.set i .any) } (γ1.set i (.val (.ref a)))) ∨ (PySem.W.exmOne K (.ref C') (.ref C) = some false ∧ dX C' fs γ1)) Dd γ) := ⟨fun z => z⟩
end
end DL
set_option Elab.async false
set_option linter.all false
set_option autoImplicit false
set_option maxRecDepth 100000
set_option maxHeartbeats 4000000
/-! DL61: all boxes in a slot's value lent; except T as e, where one of several classes comes; count of a box's list. -/
namespace DL
open PySem PySem.Spec PyProof.Rows L2 He
mutual
/-- the boxes told as lists, wherever they stand -/
def subX (L : Bxs) : D → D
  | .ref p => match L p with
    | some (.lst es) => .lst es
    | _ => .ref p
  | .lst ds => .lst (subXs L ds)
  | .tup ds => .tup (subXs L ds)
  | .non => .non
  | .bl b => .bl b
  | .int i => .int i
  | .str s => .str s
  | .obj C fs => .obj C fs
  | .emp => .emp
def subXs (L : Bxs) : List D → List D
  | [] => []
  | d :: r => subX L d :: subXs L r
end
section
variable {S S' : Hp} {L : Bxs} (e : Same S S') (h : ∀ q es, L q = some (.lst es) → Den S' (.ref q) (.lst es))
include e h
mutual
theorem Den.subX : ∀ (d : D) (v : V), Den S v d → Den S' v (subX L d)
  | .ref p, v, k => by
    cases k
    unfold DL.subX
    split
    · rename_i es l; exact h p es l
    · exact .ref p
  | .lst ds, v, k => by
    obtain ⟨a, xs, rfl, h1, h2⟩ := k.lst_inv
    unfold DL.subX
    exact .ofL (e _ _ h1) (DenL.subXs ds xs h2)
  | .tup ds, v, k => by
    obtain ⟨a, xs, rfl, h1, h2⟩ := k.tup_inv
    unfold DL.subX
    exact .ofT (e _ _ h1) (DenL.subXs ds xs h2)
  | .non, v, k => k.mono e
  | .bl b, v, k => k.mono e
  | .int i, v, k => k.mono e
  | .str s, v, k => k.mono e
  | .obj C fs, v, k => k.mono e
  | .emp, v, k => k.mono e
theorem DenL.subXs : ∀ (ds : List D) (vs : List V), DenL S vs ds → DenL S' vs (subXs L ds)
  | [], vs, k => by rw [k.nil_inv]; exact .nil
  | d :: r, vs, k => by
    obtain ⟨x, xs, rfl, h1, h2⟩ := k.cons_inv
    unfold DL.subXs
    exact .cons (Den.subX d x h1) (DenL.subXs r xs h2)
end
end
section
variable {X : Xb} {K : PySem.W.Frag} {B : Bs} {S H : Hp} {σ : L2.St} {γ : List Sl} {i h : Nat} {d : D} {m : Bool} {L : Bxs}
end
section
variable {X : Xb} {e : Expr} {te : TE} {we : WE} {tt : TT} {wt : WT}
def LendsX (γ : List Sl) (i h : Nat) (P : List Sl → Prop) : Prop := ∃ d m L, γ[i]? = some (.val d) ∧ γ[h]? = some (.hp m L) ∧ P ((lentS γ).set i (.val (subX L d)))
def dLendXT (i h : Nat) (wt : WT) : WT := fun γ Q => LendsX γ i h fun γ1 => wt γ1 fun b _ => Q b γ
def dLendXE (i h : Nat) (we : WE) : WE := fun γ Q => LendsX γ i h fun γ1 => we γ1 fun d _ => flat d ∧ Q d γ
end
section
variable {γ : List Sl} {i h : Nat} {we : WE} {wt : WT} {Q : D → List Sl → Prop} {QT : Bool → List Sl → Prop}
instance : Go (dLendXT i h wt γ QT) (LendsX γ i h fun γ1 => wt γ1 fun b _ => QT b γ) := ⟨fun z => z⟩
instance : Go (dLendXE i h we γ Q) (LendsX γ i h fun γ1 => we γ1 fun d _ => flat d ∧ Q d γ) := ⟨fun z => z⟩
end
/-! ### one of several classes comes -/
abbrev HandC := Addr × (Addr → Value → Option Addr → TS) × (Addr → List (Str × D) → WS)
noncomputable def selT (l : List HandC) : Addr → Value → Option Addr → TS := by
  classical
  exact fun a cls d => match l.find? (fun e => decide (cls = .ref e.1)) with
    | some e => e.2.1 a cls d
    | none => match l with
      | [] => fun _ _ _ => False
      | e :: _ => e.2.1 a cls d
abbrev EndsD.unsetM (Dd : EndsD) (i : Nat) : EndsD := { nx := fun γ2 => Dd.nx (γ2.set i .any), rt := Dd.rt, bk := fun γ2 => Dd.bk (γ2.set i .any), ct := fun γ2 => Dd.ct (γ2.set i .any) }
def dTryAsM (K : PySem.W.Frag) (l : List HandC) (C : Addr) (i : Nat) (wb : (Addr → List (Str × D) → List Sl → Prop) → WS) (dX : Addr → List (Str × D) → List Sl → Prop) : WS := fun Dd γ =>
  wb (fun C' fs γ1 => ((∃ e ∈ l, e.1 = C') ∧ ∀ e ∈ l, e.1 = C' → ∀ a, e.2.2 a fs (Dd.unsetM i) (γ1.set i (.val (.ref a)))) ∨ (PySem.W.exmOne K (.ref C') (.ref C) = some false ∧ dX C' fs γ1)) Dd γ
inductive HM (X : Xb) (C : Addr) (body : List Stmt) : List HandC → Prop
  | nil : HM X C body []
  | cons {CR : Addr} {ts : Addr → Value → Option Addr → TS} {wsu : Addr → List (Str × D) → WS} {l : List HandC} (hex : PySem.W.exmOne X.K (.ref CR) (.ref C) = some true)
      (hsu : ∀ (a : Addr) (oe : Obj) (cls : Value) (d : Option Addr) (pn : List (Addr × Obj)) (fs : List (Str × D)), Zc cls d oe → (∃ vs, oe.data = .fields vs) → DSs (X.su a oe pn cls CR d fs) body (ts a cls d) (wsu a fs)) (r : HM X C body l) : HM X C body ((CR, ts, wsu) :: l)
theorem HM.at {X : Xb} {C : Addr} {body : List Stmt} {l : List HandC} (h : HM X C body l) : ∀ e ∈ l, PySem.W.exmOne X.K (.ref e.1) (.ref C) = some true ∧ ∀ (a : Addr) (oe : Obj) (cls : Value) (d : Option Addr) (pn : List (Addr × Obj)) (fs : List (Str × D)), Zc cls d oe → (∃ vs, oe.data = .fields vs) → DSs (X.su a oe pn cls e.1 d fs) body (e.2.1 a cls d) (e.2.2 a fs) := by
  induction h with
  | nil => exact fun e he => by cases he
  | cons hex hsu r ih =>
    intro e he
    rcases List.mem_cons.mp he with z | z
    · subst z; exact ⟨hex, hsu⟩
    · exact ih e z
section
variable {X : Xb} {i : Nat} {n x : Str} {body suite : List Stmt} {b₀ : Stmt} {np pos pos' : Pos} {tb : WX → TS} {wb : (Addr → List (Str × D) → List Sl → Prop) → WS} {C : Addr} {e0 : HandC} {l : List HandC}
instance {K : PySem.W.Frag} {dX : Addr → List (Str × D) → List Sl → Prop} {Dd : EndsD} {γ : List Sl} : Go (dTryAsM K l C i wb dX Dd γ) (wb (fun C' fs γ1 => ((∃ e ∈ l, e.1 = C') ∧ ∀ e ∈ l, e.1 = C' → ∀ a, e.2.2 a fs (Dd.unsetM i) (γ1.set i (.val (.ref a)))) ∨ (PySem.W.exmOne K (.ref C') (.ref C) = some false ∧ dX C' fs γ1)) Dd γ) := ⟨fun z => z⟩
end
/-! ### count of a box's list of ints -/
section
variable {X : Xb} {o e : Expr} {to te : TE} {wo we : WE} {p1 p2 : Pos}
def dCntB (h : Nat) (wo we : WE) : WE := fun γ Q => wo γ fun x γ1 => (∃ m L q ds, x = .ref q ∧ γ1[h]? = some (.hp m L) ∧ L q = some (.lst ds)) ∧ we γ1 fun d γ2 => ∃ m L q ns k, x = .ref q ∧ d = .int k ∧ γ2[h]? = some (.hp m L) ∧ L q = some (.lst (intL ns)) ∧ Q (.int (ns.count k : Nat)) γ2
end
section
variable {γ : List Sl} {h : Nat} {wo we : WE} {Q : D → List Sl → Prop}
instance : Go (dCntB h wo we γ Q) (wo γ fun x γ1 => (∃ m L q ds, x = .ref q ∧ γ1[h]? = some (.hp m L) ∧ L q = some (.lst ds)) ∧ we γ1 fun d γ2 => ∃ m L q ns k, x = .ref q ∧ d = .int k ∧ γ2[h]? = some (.hp m L) ∧ L q = some (.lst (intL ns)) ∧ Q (.int (ns.count k : Nat)) γ2) := ⟨fun z => z⟩
end
end DL
set_option Elab.async false
set_option linter.all false
set_option autoImplicit false
set_option maxRecDepth 100000
set_option maxHeartbeats 4000000
/-! DL62: a def of kind B whose body has a try. -/
namespace DL
open PySem PySem.Spec PyProof.Rows L2 He
section
variable {P : Program} {w : World} {K : PySem.W.Frag} {mg : Str → Option Value} {base : Heap} {x qual : Str} {st : Stmt} {f : Addr} {fd : FuncData} {N ps : List Str} {k : Nat}
end
section
variable {X : Xb} {K : PySem.W.Frag} {f : Addr} {fd : FuncData} {ps : List Str} {k : Nat} {x : Str} {e : Expr} {es : List Expr} {t : TA} {w : WA} {p pos : Pos} {s : SpecBX}
end
end DL
set_option Elab.async false
set_option linter.all false
set_option autoImplicit false
set_option maxRecDepth 100000
set_option maxHeartbeats 4000000
/-! DL63: a comprehension of two clauses given to a name. -/
namespace DL
open PySem PySem.Spec PyProof.Rows L2
section
variable {X : Xb}
end
end DL
set_option Elab.async false
set_option linter.all false
set_option autoImplicit false
set_option maxRecDepth 100000
set_option maxHeartbeats 4000000
/-! DL64: < and <= of nested data; x not in l; min and max of two, min of a list of nested data. -/
namespace DL
open PySem PySem.Spec PyProof.Rows L2
/-! ### the rules over the real heap -/
/-- data that < takes -/
structure LtP (d e : PyData) : Prop where
  al : PySem.W.alike d e = true
  nn : d ≠ .none
  d1 : d.depth ≤ 64
  d2 : e.depth ≤ 64
def rLtD (K : PySem.W.Frag) : R2 := fun x y H Q => ∃ d e, Dp K H x d ∧ Dp K H y e ∧ LtP d e ∧ Q (.bl (PySem.W.dataLt d e)) H
def rLeD (K : PySem.W.Frag) : R2 := fun x y H Q => ∃ d e, Dp K H x d ∧ Dp K H y e ∧ LtP d e ∧ Q (.bl (!PySem.W.dataLt e d)) H
def rGtD (K : PySem.W.Frag) : R2 := fun x y H Q => ∃ d e, Dp K H x d ∧ Dp K H y e ∧ LtP d e ∧ Q (.bl (PySem.W.dataLt e d)) H
section
variable {X : Cx}
end
section
variable {prog : Program} {w : World} {A : Around} {E : Value → Shared → Prop} {s : Shared}
end
/-! ### calls -/
def LtA (d e : PyData) : Prop := PySem.W.AlikeAll [d, e] ∧ d.depth ≤ 64 ∧ e.depth ≤ 64
theorem LtA.dp {d e : PyData} (h : LtA d e) : PyData.depthAll [d, e] ≤ 64 := by
  have h1 := h.2.1
  have h2 := h.2.2
  simp only [PyData.depthAll]
  omega
def rMin2D (K : PySem.W.Frag) : List V → Hp → VK → Prop := fun xs H Q => ∃ x y d e, xs = [x, y] ∧ Dp K H x d ∧ Dp K H y e ∧ LtA d e ∧ Q (if PySem.W.dataLt e d = true then y else x) H
def rMax2D (K : PySem.W.Frag) : List V → Hp → VK → Prop := fun xs H Q => ∃ x y d e, xs = [x, y] ∧ Dp K H x d ∧ Dp K H y e ∧ LtA d e ∧ Q (if PySem.W.dataLt d e = true then y else x) H
def rMinLD (K : PySem.W.Frag) : List V → Hp → VK → Prop := fun xs H Q => ∃ l vs ds, xs = [.ref l] ∧ SqL K H l vs ∧ DpAll K H vs ds ∧ PySem.W.AlikeAll ds ∧ ds ≠ [] ∧ PyData.depthAll ds ≤ 64 ∧ ∀ v, v ∈ vs → (∃ d ds', ds = d :: ds' ∧ Dp K H v (PySem.W.minD d ds')) → Q v H
section
variable {X : Cx}
end
/-! ### over plain data -/
/-- data that < takes -/
structure LtD (x y : D) : Prop where
  n1 : noObj x = true
  n2 : noObj y = true
  a1 : PySem.W.alike (toP x) (toP y) = true
  nn : toP x ≠ .none
  d1 : (toP x).depth ≤ 64
  d2 : (toP y).depth ≤ 64
def ltD (x y : D) : Bool := PySem.W.dataLt (toP x) (toP y)
def fLtD (x y : D) (Q : D → Prop) : Prop := LtD x y ∧ Q (.bl (ltD x y))
def fLeD (x y : D) (Q : D → Prop) : Prop := LtD x y ∧ Q (.bl (!ltD y x))
def fGtD (x y : D) (Q : D → Prop) : Prop := LtD x y ∧ Q (.bl (ltD y x))
def fNotInD (x y : D) (Q : D → Prop) : Prop := ∃ ds, y = .lst ds ∧ PlD x ∧ PlD y ∧ Q (.bl (!ds.any fun z => eqD z x))
theorem LtD.p {x y : D} (h : LtD x y) : LtP (toP x) (toP y) := ⟨h.a1, h.nn, h.d1, h.d2⟩
section
variable {X : Xb} {a b : Expr} {ta tb : TE} {wa wb : WE} {pos : Pos} {k : Nat}
end
/-- data of a kind of which < takes any two -/
structure OrdD (x y : D) : Prop where
  lt : LtD x y
  s1 : PySem.W.alike (toP x) (toP x) = true
  s2 : PySem.W.alike (toP y) (toP y) = true
def min2F (ds : List D) (Q : D → Prop) : Prop := ∃ x y, ds = [x, y] ∧ OrdD x y ∧ Q (if ltD y x = true then y else x)
def max2F (ds : List D) (Q : D → Prop) : Prop := ∃ x y, ds = [x, y] ∧ OrdD x y ∧ Q (if ltD x y = true then y else x)
section
variable {X : Xb} {x : Str} {p pos : Pos} {e : Expr} {es : List Expr} {t : TA} {w : WA} {k : Nat}
end
end DL
set_option Elab.async false
set_option linter.all false
set_option autoImplicit false
set_option maxRecDepth 100000
set_option maxHeartbeats 4000000
/-! DL65: all lists of one's own (and all lists in boxes) lent as values at once; results without lists. -/
namespace DL
open PySem PySem.Spec PyProof.Rows L2
mutual
/-- data without lists, instances, dicts -/
def noL : D → Bool
  | .lst _ => false
  | .tup ds => noLs ds
  | .obj _ _ => false
  | .emp => false
  | _ => true
def noLs : List D → Bool
  | [] => true
  | d :: r => noL d && noLs r
end
section
variable {S1 S2 : Hp} (h : ∀ a xs, S1 a = some (.tup xs) → S2 a = some (.tup xs))
include h
mutual
theorem Den.noL : ∀ (d : D) (v : V), Den S1 v d → DL.noL d = true → Den S2 v d
  | .tup ds, v, k, n => by
    obtain ⟨a, xs, rfl, h1, h2⟩ := k.tup_inv
    exact .ofT (h _ _ h1) (DenL.noLs ds xs h2 n)
  | .lst ds, v, k, n => by cases n
  | .obj C fs, v, k, n => by cases n
  | .emp, v, k, n => by cases n
  | .non, v, k, n => by cases k; exact .non
  | .bl b, v, k, n => by cases k; exact .bl b
  | .int b, v, k, n => by cases k; exact .int b
  | .str b, v, k, n => by cases k; exact .str b
  | .ref b, v, k, n => by cases k; exact .ref b
theorem DenL.noLs : ∀ (ds : List D) (vs : List V), DenL S1 vs ds → DL.noLs ds = true → DenL S2 vs ds
  | [], vs, k, n => by rw [k.nil_inv]; exact .nil
  | d :: r, vs, k, n => by
    obtain ⟨x, xs, rfl, h1, h2⟩ := k.cons_inv
    have n : (DL.noL d && DL.noLs r) = true := n
    rw [Bool.and_eq_true] at n
    exact .cons (Den.noL d x h1 n.1) (DenL.noLs r xs h2 n.2)
end
end
/-- the slots while all lists of one's own are lent -/
def lentO : List Sl → List Sl
  | [] => []
  | .own _ ds :: γ => .val (.lst ds) :: lentO γ
  | .ins _ _ _ :: γ => .any :: lentO γ
  | .hp _ _ :: γ => .any :: lentO γ
  | s :: γ => s :: lentO γ
/-- the same, boxes told as lists -/
def lentB (L : Bxs) : List Sl → List Sl
  | [] => []
  | .own _ ds :: γ => .val (.lst (subXs L ds)) :: lentB L γ
  | .val d :: γ => .val (subX L d) :: lentB L γ
  | .ins _ _ _ :: γ => .any :: lentB L γ
  | .hp _ _ :: γ => .any :: lentB L γ
  | s :: γ => s :: lentB L γ
/-- how a slot is lent -/
inductive LentS (L : Bxs) : Sl → Sl → Prop
  | any {s : Sl} : LentS L s .any
  | val {d : D} : LentS L (.val d) (.val d)
  | own {m : Bool} {ds : List D} : LentS L (.own m ds) (.val (.lst ds))
  | valX {d : D} : LentS L (.val d) (.val (subX L d))
  | ownX {m : Bool} {ds : List D} : LentS L (.own m ds) (.val (.lst (subXs L ds)))
  | scr {ns : List Int} : LentS L (.scr ns) (.scr ns)
section
variable {X : Xb} {K : PySem.W.Frag} {B : Bs} {S H : Hp} {σ : L2.St} {γ γ' : List Sl} {L : Bxs}
/-- is the list at p lent? -/
def LentP (γ : List Sl) (σ : L2.St) (L : Bxs) (p : Addr) : Prop := (∃ (i : Nat) (m : Bool) (ds : List D), γ[i]? = some (Sl.own m ds) ∧ σ[i]? = some (some (V.ref p))) ∨ ∃ es, L p = some (.lst es)
/-- behind: what is new and no lent list stays -/
theorem Rel0.backZ {S' S1 H1 : Hp} {γ1 : List Sl} (R : Rel0 K B S H σ γ) (e : Same S S') (hl : ∀ a o, S' a = some o → S a = none → ∃ xs, o = .lst xs) (C : Rel0 K ⟨H, S', [], [], emptyH⟩ S1 H1 σ γ1) :
    ∃ S2, Rel0 K ⟨H, S, [], [], emptyH⟩ S2 H1 [] [] ∧ Same S S2 ∧ (∀ a xs, S1 a = some (.tup xs) → S2 a = some (.tup xs)) ∧ ∀ a, S1 a = none → S2 a = none := by
  classical
  let S2 : Hp := fun a => if S' a ≠ none ∧ S a = none then none else S1 a
  have hk : ∀ a o, H a = some o → H1 a = some o := fun a o z => C.keep a o z (by intro z; cases z)
  have h2 : ∀ a o, S2 a = some o → S1 a = some o ∧ ¬(S' a ≠ none ∧ S a = none) := fun a o z => by
    have z : (if S' a ≠ none ∧ S a = none then none else S1 a) = some o := z
    by_cases q : S' a ≠ none ∧ S a = none
    · rw [if_pos q] at z; cases z
    · rw [if_neg q] at z; exact ⟨z, q⟩
  have hS : Same S S2 := fun a o z => by
    show (if S' a ≠ none ∧ S a = none then none else S1 a) = some o
    rw [if_neg fun q => by rw [q.2] at z; cases z]
    exact C.grow _ _ (e a o z)
  refine ⟨S2, ?_, hS, fun a xs z => ?_, fun a z => ?_⟩
  · refine ⟨fun _ => emptyH, fun a o z => C.same _ _ (h2 a o z).1, fun a o z _ => hk a o z, fun a ha => (by cases ha), hS, fun a o z => ?_, rfl, fun j s z => (by simp at z), fun i a o e => (by cases e), fun i a o e => (by cases e), fun i j a o u _ e => (by cases e), fun i a o e => (by cases e), fun p o hp => (by cases hp), List.nodup_nil, fun a o e => (by cases e)⟩
    obtain ⟨z1, z2⟩ := h2 a o z
    rcases C.ext a o z1 with q | q
    · refine .inl ?_
      have q : S' a = some o := q
      cases eS : S a with
      | none => exact (z2 ⟨by rw [q]; exact (fun z => by cases z), eS⟩).elim
      | some u =>
        have := e a u eS
        rw [q] at this
        exact eS.trans this.symm
    · exact .inr q
  · show (if S' a ≠ none ∧ S a = none then none else S1 a) = _
    rw [if_neg fun q => by
      obtain ⟨q1, q2⟩ := q
      cases eS : S' a with
      | none => exact q1 eS
      | some u =>
        obtain ⟨ys, rfl⟩ := hl a u eS q2
        have := C.grow a _ eS
        rw [z] at this
        cases this]
    exact z
  · show (if S' a ≠ none ∧ S a = none then none else S1 a) = none
    rw [z]
    split <;> rfl
end
section
variable {X : Xb} {e : Expr} {te : TE} {we : WE} {tt : TT} {wt : WT} {tf : TE} {wf : WF}
/-- all lists of one's own lent: a test, an expression, a new list -/
def dLendOT (wt : WT) : WT := fun γ Q => wt (lentO γ) fun b _ => Q b γ
def dLendOE (we : WE) : WE := fun γ Q => we (lentO γ) fun d _ => noL d = true ∧ Q d γ
def dLendOF (wf : WF) : WF := fun γ Q => wf (lentO γ) fun ds _ => noLs ds = true ∧ Q ds γ
def dLendBT2 (h : Nat) (wt : WT) : WT := fun γ Q => ∃ m L, γ[h]? = some (.hp m L) ∧ wt (lentB L γ) fun b _ => Q b γ
def dLendBE2 (h : Nat) (we : WE) : WE := fun γ Q => ∃ m L, γ[h]? = some (.hp m L) ∧ we (lentB L γ) fun d _ => noL d = true ∧ Q d γ
def dLendBF2 (h : Nat) (wf : WF) : WF := fun γ Q => ∃ m L, γ[h]? = some (.hp m L) ∧ wf (lentB L γ) fun ds _ => noLs ds = true ∧ Q ds γ
end
/-! ### a comprehension given to a name, lists lent -/
section
variable {X : Xb} {i : Nat} {y : Str} {py : Pos} {elt tg iter : Expr} {ifs : List Expr} {scope : Scope} {own : List (Str × Nat)} {pos spos : Pos} {ti : TI} {wi : WA} {g : TG} {wg : WG} {tt : TT} {wt : WT} {te : TE} {we : WE}
end
section
variable {γ : List Sl} {h : Nat} {we : WE} {wt : WT} {wf : WF} {Q : D → List Sl → Prop} {QT : Bool → List Sl → Prop} {QF : List D → List Sl → Prop}
instance : Go (dLendOT wt γ QT) (wt (lentO γ) fun b _ => QT b γ) := ⟨fun z => z⟩
instance : Go (dLendOE we γ Q) (we (lentO γ) fun d _ => noL d = true ∧ Q d γ) := ⟨fun z => z⟩
instance : Go (dLendOF wf γ QF) (wf (lentO γ) fun ds _ => noLs ds = true ∧ QF ds γ) := ⟨fun z => z⟩
instance : GoH2 (dLendBT2 h wt γ QT) (∃ m L, γ[h]? = some (.hp m L) ∧ wt (lentB L γ) fun b _ => QT b γ) := ⟨fun z => z⟩
instance : GoH2 (dLendBE2 h we γ Q) (∃ m L, γ[h]? = some (.hp m L) ∧ we (lentB L γ) fun d _ => noL d = true ∧ Q d γ) := ⟨fun z => z⟩
instance : GoH2 (dLendBF2 h wf γ QF) (∃ m L, γ[h]? = some (.hp m L) ∧ wf (lentB L γ) fun ds _ => noLs ds = true ∧ QF ds γ) := ⟨fun z => z⟩
end
end DL
set_option Elab.async false
set_option linter.all false
set_option autoImplicit false
set_option maxRecDepth 100000
set_option maxHeartbeats 4000000
/-! DL66: lists of one's own lent, their boxes told as lists; min of a list of nested data. -/
namespace DL
open PySem PySem.Spec PyProof.Rows L2
/-- all lists of one's own lent, the boxes in them told as lists; values as they are -/
def lentC (L : Bxs) : List Sl → List Sl
  | [] => []
  | .own _ ds :: γ => .val (.lst (subXs L ds)) :: lentC L γ
  | .ins _ _ _ :: γ => .any :: lentC L γ
  | .hp _ _ :: γ => .any :: lentC L γ
  | s :: γ => s :: lentC L γ
section
variable {X : Xb} {e : Expr} {te : TE} {we : WE} {tt : TT} {wt : WT} {tf : TE} {wf : WF}
def dLendCT (h : Nat) (wt : WT) : WT := fun γ Q => ∃ m L, γ[h]? = some (.hp m L) ∧ wt (lentC L γ) fun b _ => Q b γ
def dLendCE (h : Nat) (we : WE) : WE := fun γ Q => ∃ m L, γ[h]? = some (.hp m L) ∧ we (lentC L γ) fun d _ => noL d = true ∧ Q d γ
def dLendCF (h : Nat) (wf : WF) : WF := fun γ Q => ∃ m L, γ[h]? = some (.hp m L) ∧ wf (lentC L γ) fun ds _ => noLs ds = true ∧ Q ds γ
end
section
variable {X : Xb} {i : Nat} {y : Str} {py : Pos} {elt tg iter : Expr} {ifs : List Expr} {scope : Scope} {own : List (Str × Nat)} {pos spos : Pos} {ti : TI} {wi : WA} {g : TG} {wg : WG} {tt : TT} {wt : WT} {te : TE} {we : WE}
end
section
variable {γ : List Sl} {h : Nat} {we : WE} {wt : WT} {wf : WF} {Q : D → List Sl → Prop} {QT : Bool → List Sl → Prop} {QF : List D → List Sl → Prop}
instance : GoH2 (dLendCT h wt γ QT) (∃ m L, γ[h]? = some (.hp m L) ∧ wt (lentC L γ) fun b _ => QT b γ) := ⟨fun z => z⟩
instance : GoH2 (dLendCE h we γ Q) (∃ m L, γ[h]? = some (.hp m L) ∧ we (lentC L γ) fun d _ => noL d = true ∧ Q d γ) := ⟨fun z => z⟩
instance : GoH2 (dLendCF h wf γ QF) (∃ m L, γ[h]? = some (.hp m L) ∧ wf (lentC L γ) fun ds _ => noLs ds = true ∧ QF ds γ) := ⟨fun z => z⟩
end
def rMinL (K : PySem.W.Frag) : List V → Hp → VK → Prop := fun xs H Q => ∃ l vs d ds, xs = [.ref l] ∧ SqL K H l vs ∧ DpAll K H vs (d :: ds) ∧ PySem.W.AlikeAll (d :: ds) ∧ PyData.depthAll (d :: ds) ≤ 64 ∧ ∀ (i : Nat) v e, vs[i]? = some v → (d :: ds)[i]? = some e → (∀ y ∈ d :: ds, PySem.W.dataLt y e = false) → Q v H
section
variable {X : Cx}
end
/-- data of which < takes any two -/
structure OrdL (es : List D) : Prop where
  ne : es ≠ []
  al : ∀ x ∈ es, ∀ y ∈ es, PySem.W.alike (toP x) (toP y) = true
  no : ∀ x ∈ es, noObj x = true ∧ toP x ≠ .none
  dp : ∀ x ∈ es, (toP x).depth ≤ 64
theorem toPs_map : ∀ es : List D, toPs es = es.map toP
  | [] => rfl
  | d :: r => by rw [toPs, toPs_map r]; rfl
theorem OrdL.all {es : List D} (h : OrdL es) : PySem.W.AlikeAll (toPs es) ∧ PyData.depthAll (toPs es) ≤ 64 ∧ noObjs es = true := by
  refine ⟨⟨fun a ha b hb => ?_, fun a ha => ?_⟩, depth_of h.dp, noObjs_of fun d hd => (h.no d hd).1⟩
  · rw [toPs_map] at ha hb
    obtain ⟨x, hx, rfl⟩ := List.mem_map.mp ha
    obtain ⟨y, hy, rfl⟩ := List.mem_map.mp hb
    exact h.al x hx y hy
  · rw [toPs_map] at ha
    obtain ⟨x, hx, rfl⟩ := List.mem_map.mp ha
    exact (h.no x hx).2
def minLF (ds : List D) (Q : D → Prop) : Prop := ∃ es, ds = [.lst es] ∧ OrdL es ∧ ∀ x ∈ es, (∀ y ∈ es, ltD y x = false) → Q x
end DL
set_option Elab.async false
set_option linter.all false
set_option autoImplicit false
set_option maxRecDepth 100000
set_option maxHeartbeats 4000000
/-! DL67: boxes within boxes told as lists while lent; o.pop(k) of a list in a box. -/
namespace DL
open PySem PySem.Spec PyProof.Rows L2
/-- the boxes, what stands in them told too -/
def sub2 (L : Bxs) : Bxs := fun p => match L p with
  | some (.lst es) => some (.lst (subXs L es))
  | b => b
mutual
/-- data without boxes stay -/
theorem subX_no (L : Bxs) : ∀ d : D, noObj d = true → subX L d = d
  | .lst ds, h => by unfold subX; rw [subXs_no L ds h]
  | .tup ds, h => by unfold subX; rw [subXs_no L ds h]
  | .non, _ => by unfold subX; rfl
  | .bl _, _ => by unfold subX; rfl
  | .int _, _ => by unfold subX; rfl
  | .str _, _ => by unfold subX; rfl
  | .obj _ _, h => by cases h
  | .emp, h => by cases h
  | .ref _, h => by cases h
theorem subXs_no (L : Bxs) : ∀ ds : List D, noObjs ds = true → subXs L ds = ds
  | [], _ => by unfold subXs; rfl
  | d :: r, h => by
    have h : (noObj d && noObjs r) = true := h
    rw [Bool.and_eq_true] at h
    unfold subXs
    rw [subX_no L d h.1, subXs_no L r h.2]
end
/-- the slots while all lists of one's own are lent, boxes told to their ground -/
def lentD (L : Bxs) : List Sl → List Sl
  | [] => []
  | .own _ ds :: γ => .val (.lst (subXs (sub2 L) ds)) :: lentD L γ
  | .val d :: γ => .val (subX (sub2 L) d) :: lentD L γ
  | .ins _ _ _ :: γ => .any :: lentD L γ
  | .hp _ _ :: γ => .any :: lentD L γ
  | s :: γ => s :: lentD L γ
inductive LentT (L : Bxs) : Sl → Sl → Prop
  | any {s : Sl} : LentT L s .any
  | val {d : D} : LentT L (.val d) (.val (subX (sub2 L) d))
  | own {m : Bool} {ds : List D} : LentT L (.own m ds) (.val (.lst (subXs (sub2 L) ds)))
  | scr {ns : List Int} : LentT L (.scr ns) (.scr ns)
section
variable {X : Xb} {K : PySem.W.Frag} {B : Bs} {S H : Hp} {σ : L2.St} {γ γ' : List Sl} {L : Bxs}
end
section
variable {X : Xb} {e : Expr} {te : TE} {we : WE} {tt : TT} {wt : WT} {tf : TE} {wf : WF}
def dLendDT (h : Nat) (wt : WT) : WT := fun γ Q => ∃ m L, γ[h]? = some (.hp m L) ∧ wt (lentD L γ) fun b _ => Q b γ
def dLendDE (h : Nat) (we : WE) : WE := fun γ Q => ∃ m L, γ[h]? = some (.hp m L) ∧ we (lentD L γ) fun d _ => noL d = true ∧ Q d γ
def dLendDF (h : Nat) (wf : WF) : WF := fun γ Q => ∃ m L, γ[h]? = some (.hp m L) ∧ wf (lentD L γ) fun ds _ => noLs ds = true ∧ Q ds γ
end
section
variable {X : Xb} {i : Nat} {y : Str} {py : Pos} {elt tg iter : Expr} {ifs : List Expr} {scope : Scope} {own : List (Str × Nat)} {pos spos : Pos} {ti : TI} {wi : WA} {g : TG} {wg : WG} {tt : TT} {wt : WT} {te : TE} {we : WE}
end
section
variable {γ : List Sl} {h : Nat} {we : WE} {wt : WT} {wf : WF} {Q : D → List Sl → Prop} {QT : Bool → List Sl → Prop} {QF : List D → List Sl → Prop}
instance : GoH2 (dLendDT h wt γ QT) (∃ m L, γ[h]? = some (.hp m L) ∧ wt (lentD L γ) fun b _ => QT b γ) := ⟨fun z => z⟩
instance : GoH2 (dLendDE h we γ Q) (∃ m L, γ[h]? = some (.hp m L) ∧ we (lentD L γ) fun d _ => noL d = true ∧ Q d γ) := ⟨fun z => z⟩
instance : GoH2 (dLendDF h wf γ QF) (∃ m L, γ[h]? = some (.hp m L) ∧ wf (lentD L γ) fun ds _ => noLs ds = true ∧ QF ds γ) := ⟨fun z => z⟩
end
/-! ### o.pop(k), o a list in a box -/
section
variable {X : Xb} {o e : Expr} {to te : TE} {wo we : WE} {p1 p2 : Pos}
def dPopK (h : Nat) (wo we : WE) : WE := fun γ Q => wo γ fun x γ1 => (∃ m L q ds, x = .ref q ∧ γ1[h]? = some (.hp m L) ∧ L q = some (.lst ds)) ∧ we γ1 fun d γ2 => ∃ (n : Int) (m : Bool) (L : Bxs) (q : Addr) (ds : List D) (y : D), d = .int n ∧ x = .ref q ∧ γ2[h]? = some (.hp m L) ∧ L q = some (.lst ds) ∧ (0 ≤ n ∧ n < 2 ^ 63) ∧ ds[n.toNat]? = some y ∧ Q y (γ2.set h (.hp m (updB L q (.lst (ds.eraseIdx n.toNat)))))
end
section
variable {γ : List Sl} {h : Nat} {wo we : WE} {Q : D → List Sl → Prop}
instance : Go (dPopK h wo we γ Q) (wo γ fun x γ1 => (∃ m L q ds, x = .ref q ∧ γ1[h]? = some (.hp m L) ∧ L q = some (.lst ds)) ∧ we γ1 fun d γ2 => ∃ (n : Int) (m : Bool) (L : Bxs) (q : Addr) (ds : List D) (y : D), d = .int n ∧ x = .ref q ∧ γ2[h]? = some (.hp m L) ∧ L q = some (.lst ds) ∧ (0 ≤ n ∧ n < 2 ^ 63) ∧ ds[n.toNat]? = some y ∧ Q y (γ2.set h (.hp m (updB L q (.lst (ds.eraseIdx n.toNat)))))) := ⟨fun z => z⟩
end
end DL
set_option Elab.async false
set_option linter.all false
set_option autoImplicit false
set_option maxRecDepth 100000
set_option maxHeartbeats 4000000
/-! DL68: sorted of nested data of any length; max of two ints; len(script); xs[k], xs[l] = a, b. -/
namespace DL
open PySem PySem.Spec PyProof.Rows L2
/-! ### sorted -/
abbrev encB (b : V × D) : PyData := toP b.2
def rSortD (K : PySem.W.Frag) : List V → Hp → VK → Prop := fun xs H Q => ∃ (l : Addr) (bs : List (V × D)), xs = [.ref l] ∧ SqL K H l (bs.map (·.1)) ∧ (∀ b ∈ bs, Dp K H b.1 (toP b.2)) ∧ PySem.W.AllAlike (bs.map encB) ∧ PySem.W.Sortable (bs.map encB) ∧ (∀ b ∈ bs, (toP b.2).depth ≤ 64) ∧
  ∀ (ps : List (V × D)) p, ps.Perm bs → ps.Pairwise (fun a b => PySem.W.dataLt (toP b.2) (toP a.2) = false) → H p = none → Q (.ref p) (upd H p (.lst (ps.map (·.1))))
section
variable {X : Cx}
end
/-- data of one kind, a list that sorted takes -/
structure SrtD (es : List D) : Prop where
  al : ∀ x ∈ es, ∀ y ∈ es, PySem.W.alike (toP x) (toP y) = true
  no : ∀ x ∈ es, noObj x = true
  tu : (∀ x ∈ es, ∃ y r, x = .tup (y :: r)) ∨ ∀ x ∈ es, toP x ≠ .none ∧ ∀ r, toP x ≠ .tuple r
  dp : ∀ x ∈ es, (toP x).depth ≤ 64
def dSortD (wa : WE) : WF := fun γ Q => wa γ fun x γ1 => ∃ es, x = .lst es ∧ SrtD es ∧ ∀ es' : List D, es'.Perm es → es'.Pairwise (fun a b => ltD b a = false) → Q es' γ1
section
variable {X : Xb} {a : Expr} {ta : TE} {wa : WE} {p pos : Pos} {k : Nat}
instance {γ : List Sl} {QF : List D → List Sl → Prop} : Go (dSortD wa γ QF) (wa γ fun x γ1 => ∃ es, x = .lst es ∧ SrtD es ∧ ∀ es' : List D, es'.Perm es → es'.Pairwise (fun a b => ltD b a = false) → QF es' γ1) := ⟨fun z => z⟩
end
/-! ### max of two ints -/
def maxI (ds : List D) (Q : D → Prop) : Prop := ∃ i j, ds = [.int i, .int j] ∧ Q (.int (if j > i then j else i))
/-! ### len(script) -/
section
variable {X : Xb} {p px pos : Pos} {x : Str}
def dLenS (i : Nat) : WE := fun γ Q => ∃ ns, γ[i]? = some (.scr ns) ∧ Q (.int (ns.length : Nat)) γ
instance {γ : List Sl} {i : Nat} {Q : D → List Sl → Prop} : GoH1 (dLenS i γ Q) (∃ ns, γ[i]? = some (.scr ns) ∧ Q (.int (ns.length : Nat)) γ) := ⟨fun z => z⟩
end
/-! ### xs[k], xs[l] = a, b; xs of one's own -/
section
variable {X : Xb} {a b k l : Expr} {ta tb tk tl : TE} {wa wb wk wl : WE} {pos : Pos}
def dSwap (i : Nat) (we wk wl : WE) : WS := fun Dd γ => we γ fun d γ1 => ∃ x y, d = .tup [x, y] ∧ (∃ ds, γ1[i]? = some (.own false ds)) ∧ wk γ1 fun kd γ2 => ∃ n ds j, kd = .int n ∧ γ2[i]? = some (.own false ds) ∧ ixN ds.length n = some j ∧
  wl (γ2.set i (.own false (ds.set j x))) fun ld γ3 => ∃ n2 es j2, ld = .int n2 ∧ γ3[i]? = some (.own false es) ∧ ixN es.length n2 = some j2 ∧ Dd.nx (γ3.set i (.own false (es.set j2 y)))
instance {γ : List Sl} {Dd : EndsD} {i : Nat} {we : WE} : Go (dSwap i we wk wl Dd γ) (we γ fun d γ1 => ∃ x y, d = .tup [x, y] ∧ (∃ ds, γ1[i]? = some (.own false ds)) ∧ wk γ1 fun kd γ2 => ∃ n ds j, kd = .int n ∧ γ2[i]? = some (.own false ds) ∧ ixN ds.length n = some j ∧
  wl (γ2.set i (.own false (ds.set j x))) fun ld γ3 => ∃ n2 es j2, ld = .int n2 ∧ γ3[i]? = some (.own false es) ∧ ixN es.length n2 = some j2 ∧ Dd.nx (γ3.set i (.own false (es.set j2 y)))) := ⟨fun z => z⟩
end
end DL
set_option Elab.async false
set_option linter.all false
set_option autoImplicit false
set_option maxRecDepth 100000
set_option maxHeartbeats 4000000
/-! DL69: own exceptions of two fields; x = (e.f, e.g) in a handler. -/
namespace DL
open PySem PySem.Spec PyProof.Rows L2 He
/-- what the __init__ of a class with two fields does -/
def spInit2 (C : Addr) (f g : Str) : Sp := fun vs H Q _ => ∃ a y z, vs = [.ref a, y, z] ∧ H a = some (exo a C none) ∧ ∀ dx, H dx = none → dx ≠ a → Q .non (upd (upd (upd H dx (exd dx [(f, y)])) a (exo a C (some dx))) dx (exd dx [(g, z), (f, y)]))
/-- an own exception class with an __init__ of two fields -/
structure Xc2 (P : Program) (w : World) (K : PySem.W.Frag) (mg : Str → Option Value) (base : Heap) (x fl fl2 : Str) where
  C : Addr
  g : mg x = some (.ref C)
  T : OexC K C
  fI : Addr
  i : PySem.W.findIn K (.ref C) "__init__" = some (some (.ref fI))
  ti : PySem.W.typeIn K (.ref fI) = some (.type "function")
  fd : FuncData
  ps : List Str
  F : FnOk P w K mg base CX0 1 fI fd ps (spInit2 C fl fl2)
  b : Binds K fd ps []
section
variable {P : Program} {w : World} {K : PySem.W.Frag} {mg : Str → Option Value} {base : Heap} {x qual : Str} {st : Stmt} {f : Addr} {fd : FuncData} {s v u fl gl : Str} {C : Addr}
theorem fn_init2 {p1 p2 p3 p4 p5 p6 pos pos2 : Pos} (F : Fun K x qual st f fd) (Sc : FnScope [s, v, u] [s, v, u] (defScope st)) (hb : defBody st = [.Assign [.Attribute (.Name s p1) fl p2] (.Name v p3) pos, .Assign [.Attribute (.Name s p4) gl p5] (.Name u p6) pos2]) (T : OexC K C) (hno : PySem.W.findIn K (.ref C) fl = some none) (hno2 : PySem.W.findIn K (.ref C) gl = some none)
    (d1 : (s == ("__debug__" : Str)) = false := by decide) (d2 : (s == ("__classdict__" : Str)) = false := by decide) (d3 : (v == ("__debug__" : Str)) = false := by decide) (d4 : (v == ("__classdict__" : Str)) = false := by decide) (d5 : (u == ("__debug__" : Str)) = false := by decide) (d6 : (u == ("__classdict__" : Str)) = false := by decide) : FnOk P w K mg base CX0 1 f fd [s, v, u] (spInit2 C fl gl) := by
  have vis : ∀ y ∈ [s, v, u], ∀ (H : Hp) (cdv : Value) (A : Around) (outer : List Env) (s0 : Shared) (E : XK), Vis (cxOf CX0 P w K mg base [s, v, u] qual (defScope st) f cdv A outer s0 H E).nox.env.scope y := fun y hy H cdv A outer s0 E => by
    rcases Sc.par y hy with h | h
    · exact .inl h
    · exact .inr (.inl h)
  refine F.ok Sc (fun vs H Q E ⟨a, y, z, e, _⟩ => by rw [e]; rfl) fun cdv A outer s0 H vs Q E hr ⟨a, y, z, e, ha, q⟩ => ⟨tSeq (tOst K fl (tVar 0) (tVar 1)) (tOst K gl (tVar 0) (tVar 2)), ?_, ?_⟩
  · rw [hb]
    exact pss_cons (ps_ost (X := (cxOf CX0 P w K mg base [s, v, u] qual (defScope st) f cdv A outer s0 H E).nox) (pe_var rfl (vis s (by simp) H cdv A outer s0 E) d1 d2) (pe_var rfl (vis v (by simp) H cdv A outer s0 E) d3 d4)) (pss_one (ps_ost (X := (cxOf CX0 P w K mg base [s, v, u] qual (defScope st) f cdv A outer s0 H E).nox) (pe_var rfl (vis s (by simp) H cdv A outer s0 E) d1 d2) (pe_var rfl (vis u (by simp) H cdv A outer s0 E) d5 d6)))
  · subst e
    refine ⟨y, rfl, .ref a, rfl, a, C, rfl, T, hno, .inl ⟨ha, fun dx h1 h2 => ?_⟩⟩
    refine ⟨z, rfl, .ref a, rfl, a, C, rfl, T, hno2, .inr ⟨dx, [(fl, y)], upd_same, by rw [upd_ne h2]; exact upd_same, by show 1 ≤ 900; decide, q dx h1 h2⟩⟩
def Xc2.of {h : Heap} {fld fld2 qual s v u : Str} {st : Stmt} {p1 p2 p3 p4 p5 p6 pos pos2 : Pos} (X : K.In h) (G : h.Ns mainGlobals mg) (hg : (Fa.glo x).ok K = true) (c : oexB x K = true) (cx : xhB x fld K = true) (cx2 : xhB x fld2 K = true) (Gi : Gm K (ga K x) "__init__" qual st [s, v, u]) (Sc : FnScope [s, v, u] [s, v, u] (defScope st)) (hb : defBody st = [.Assign [.Attribute (.Name s p1) fld p2] (.Name v p3) pos, .Assign [.Attribute (.Name s p4) fld2 p5] (.Name u p6) pos2])
    (d1 : (s == ("__debug__" : Str)) = false := by decide) (d2 : (s == ("__classdict__" : Str)) = false := by decide) (d3 : (v == ("__debug__" : Str)) = false := by decide) (d4 : (v == ("__classdict__" : Str)) = false := by decide) (d5 : (u == ("__debug__" : Str)) = false := by decide) (d6 : (u == ("__classdict__" : Str)) = false := by decide) : Xc2 P w K mg base x fld fld2 :=
  { C := ga K x
    g := glo_ok X G hg
    T := oex_ok c
    fI := Gi.f
    i := Gi.at
    ti := beq_iff_eq.mp Gi.fn
    fd := Gi.fd
    ps := [s, v, u]
    F := fn_init2 Gi.F Sc hb (oex_ok c) (xh_ok cx).no (xh_ok cx2).no d1 d2 d3 d4 d5 d6
    b := Gi.b }
end
section
variable {X : Xb} {x : Str} {p p2 pos : Pos} {ta : TA} {wa : WA} {e e2 : Expr}
def dRaise2 (C : Addr) (f g : Str) (wa : WA) (dX : Addr → List (Str × D) → List Sl → Prop) : WS := fun _ γ => wa γ fun ds γ1 => ∃ d1 d2, ds = [d1, d2] ∧ dX C [(g, d2), (f, d1)] γ1
instance {C : Addr} {f g : Str} {dX : Addr → List (Str × D) → List Sl → Prop} {Dd : EndsD} {γ : List Sl} : Go (dRaise2 C f g wa dX Dd γ) (wa γ fun ds γ1 => ∃ d1 d2, ds = [d1, d2] ∧ dX C [(g, d2), (f, d1)] γ1) := ⟨fun z => z⟩
end
/-! ### try: ..; except A: ..; except B as n: y = (n.f, n.g) -/
section
variable {X : Xb} {body : List Stmt} {pos posA posB posE pT p1 p2 p3 p4 py npA npB : Pos} {tb : WX → TS} {wb : (Addr → List (Str × D) → List Sl → Prop) → WS} {xA xB n y f g : Str} {i j kT : Nat} {CA CB : Addr} {b₀ : Stmt} {suite : List Stmt} {tsA : Addr → Value → Option Addr → TS} {wA : WS}
def dTryTell (K : PySem.W.Frag) (CA CB : Addr) (i j : Nat) (f g : Str) (wA : WS) (wb : (Addr → List (Str × D) → List Sl → Prop) → WS) (dX : Addr → List (Str × D) → List Sl → Prop) : WS := fun Dd γ =>
  wb (fun C' fs γ1 => ∃ b, PySem.W.exmOne K (.ref C') (.ref CA) = some b ∧ (b = true → wA Dd γ1) ∧ (b = false → (C' = CB ∧ ∃ z1 z2, fs.lookup f = some z1 ∧ fs.lookup g = some z2 ∧ ∀ a, (γ1.set i (.val (.ref a)))[i]? = some (.val (.ref a)) ∧ Dd.nx (((γ1.set i (.val (.ref a))).set j (.val (.tup [z1, z2]))).set i .any)) ∨ (PySem.W.exmOne K (.ref C') (.ref CB) = some false ∧ dX C' fs γ1))) Dd γ
instance {K : PySem.W.Frag} {γ : List Sl} {Dd : EndsD} {CA CB : Addr} {i j : Nat} {f g : Str} {wA : WS} {wb : (Addr → List (Str × D) → List Sl → Prop) → WS} {dX : Addr → List (Str × D) → List Sl → Prop} : Go (dTryTell K CA CB i j f g wA wb dX Dd γ) (wb (fun C' fs γ1 => ∃ b, PySem.W.exmOne K (.ref C') (.ref CA) = some b ∧ (b = true → wA Dd γ1) ∧ (b = false → (C' = CB ∧ ∃ z1 z2, fs.lookup f = some z1 ∧ fs.lookup g = some z2 ∧ ∀ a, (γ1.set i (.val (.ref a)))[i]? = some (.val (.ref a)) ∧ Dd.nx (((γ1.set i (.val (.ref a))).set j (.val (.tup [z1, z2]))).set i .any)) ∨ (PySem.W.exmOne K (.ref C') (.ref CB) = some false ∧ dX C' fs γ1))) Dd γ) := ⟨fun z => z⟩
end
end DL
set_option Elab.async false
set_option linter.all false
set_option autoImplicit false
set_option maxRecDepth 100000
set_option maxHeartbeats 4000000
/-! DL70: boxes within boxes told as lists to any depth while lent; comprehensions over a list in a box. -/
namespace DL
open PySem PySem.Spec PyProof.Rows L2
/-- the boxes, what stands in them told n levels deep -/
def subN : Nat → Bxs → Bxs
  | 0, L => L
  | n + 1, L => fun p => match L p with
    | some (.lst es) => some (.lst (subXs (subN n L) es))
    | b => b
theorem subN_den {S : Hp} {L : Bxs} (h : ∀ q es, L q = some (.lst es) → Den S (.ref q) (.lst es)) : ∀ (n : Nat) q es, subN n L q = some (.lst es) → Den S (.ref q) (.lst es)
  | 0, q, es, l => h q es l
  | n + 1, q, es, l => by
    unfold subN at l
    split at l
    · rename_i es' l'
      cases l
      obtain ⟨a, xs, ea, f1, f2⟩ := (h q es' l').lst_inv
      rw [ea]
      exact .ofL f1 (DenL.subXs (Same.refl S) (subN_den h n) _ _ f2)
    · rename_i b nb
      exact (nb es l).elim
/-- the slots while all lists of one's own are lent, boxes told to their ground -/
def lentN (n : Nat) (L : Bxs) : List Sl → List Sl
  | [] => []
  | .own _ ds :: γ => .val (.lst (subXs (subN n L) ds)) :: lentN n L γ
  | .val d :: γ => .val (subX (subN n L) d) :: lentN n L γ
  | .ins _ _ _ :: γ => .any :: lentN n L γ
  | .hp _ _ :: γ => .any :: lentN n L γ
  | s :: γ => s :: lentN n L γ
inductive LentU (n : Nat) (L : Bxs) : Sl → Sl → Prop
  | any {s : Sl} : LentU n L s .any
  | val {d : D} : LentU n L (.val d) (.val (subX (subN n L) d))
  | own {m : Bool} {ds : List D} : LentU n L (.own m ds) (.val (.lst (subXs (subN n L) ds)))
  | scr {ns : List Int} : LentU n L (.scr ns) (.scr ns)
theorem lentN_at {n : Nat} {L : Bxs} : ∀ {γ : List Sl} {i : Nat} {s : Sl}, (lentN n L γ)[i]? = some s → ∃ t, γ[i]? = some t ∧ LentU n L t s
  | [], i, s, h => by cases h
  | t :: γ, 0, s, h => by
    refine ⟨t, rfl, ?_⟩
    cases t <;> (unfold lentN at h; cases h; first | exact .any | exact .val | exact .own | exact .scr)
  | t :: γ, i + 1, s, h => by
    have h' : (lentN n L γ)[i]? = some s := by cases t <;> (unfold lentN at h; exact h)
    exact lentN_at (γ := γ) (i := i) h'
theorem lentN_len {n : Nat} {L : Bxs} : ∀ {γ : List Sl}, (lentN n L γ).length = γ.length
  | [] => rfl
  | t :: γ => by cases t <;> (unfold lentN; rw [List.length_cons, List.length_cons, lentN_len])
section
variable {X : Xb} {K : PySem.W.Frag} {B : Bs} {S H : Hp} {σ : L2.St} {γ γ' : List Sl} {L : Bxs} {n : Nat}
theorem Rel.lendU (R : Rel X B S H σ γ) (hL : ∃ (h : Nat) (m : Bool), γ[h]? = some (Sl.hp m L)) (hl : γ'.length = γ.length) (hγ : ∀ (i : Nat) (s : Sl), γ'[i]? = some s → ∃ t, γ[i]? = some t ∧ LentU n L t s) :
    ∃ S', Same S S' ∧ (∀ a o, S' a = some o → S a = none → ∃ xs, o = .lst xs) ∧ Rel0 X.K ⟨H, S', [], [], emptyH⟩ S' H σ γ' := by
  classical
  let S' : Hp := fun p => if LentP γ σ L p then H p else S p
  obtain ⟨hh, m, g⟩ := hL
  have hno : ∀ p, LentP γ σ L p → S p = none ∧ ∃ xs, H p = some (.lst xs) := fun p hp => by
    rcases hp with ⟨i, m, ds, g, e⟩ | ⟨es, l⟩
    · obtain ⟨q, xs, f1, f2, f3, _⟩ := R.sl i _ g
      rw [e] at f1
      cases f1
      exact ⟨f2, xs, f3⟩
    · obtain ⟨xs, f1, _⟩ := R.boxL g l
      exact ⟨(R.boxAt g l).1, xs, f1⟩
  have hS : Same S S' := fun p o z => by
    have : ¬ LentP γ σ L p := fun q => by rw [(hno p q).1] at z; cases z
    show (if _ then H p else S p) = some o
    rw [if_neg this]
    exact z
  have hS' : Same S' H := fun p o z => by
    have z : (if LentP γ σ L p then H p else S p) = some o := z
    by_cases q : LentP γ σ L p
    · rw [if_pos q] at z; exact z
    · rw [if_neg q] at z; exact R.same p o z
  have hat : ∀ p xs, LentP γ σ L p → H p = some (.lst xs) → S' p = some (.lst xs) := fun p xs q e => by
    show (if _ then H p else S p) = _
    rw [if_pos q]
    exact e
  have hd : ∀ q es, L q = some (.lst es) → Den S' (.ref q) (.lst es) := fun q es l => by
    obtain ⟨xs, f1, f2⟩ := R.boxL g l
    exact .ofL (hat q xs (.inr ⟨es, l⟩) f1) (f2.mono hS)
  have hd2 : ∀ q es, subN n L q = some (.lst es) → Den S' (.ref q) (.lst es) := subN_den hd n
  refine ⟨S', hS, fun a o z zn => ?_, ?_⟩
  · have z : (if LentP γ σ L a then H a else S a) = some o := z
    by_cases q : LentP γ σ L a
    · rw [if_pos q] at z
      obtain ⟨xs, e⟩ := (hno a q).2
      rw [e] at z
      cases z
      exact ⟨xs, rfl⟩
    · rw [if_neg q, zn] at z; cases z
  · obtain ⟨φ, r⟩ := R.r
    refine ⟨fun _ => emptyH, hS', fun a o h _ => h, fun a ha => (by cases ha), Same.refl _, fun a o h => .inl h, by rw [hl]; exact r.len, fun j s h => ?_, fun i a o e => (by cases e), fun i a o e => (by cases e), fun i j a o u _ e => (by cases e), fun i a o e => (by cases e), fun p o hp => (by cases hp), List.nodup_nil, fun a o e => (by cases e)⟩
    obtain ⟨t, ht, k⟩ := hγ j s h
    have q := R.sl j t ht
    cases k with
    | any => trivial
    | val => obtain ⟨v, f1, f2⟩ := q; exact ⟨v, f1, Den.subX hS hd2 _ _ f2⟩
    | own => obtain ⟨p, xs, f1, f2, f3, f4, _⟩ := q; exact ⟨_, f1, .ofL (hat p xs (.inl ⟨j, _, _, ht, f1⟩) f3) (DenL.subXs hS hd2 _ _ f4)⟩
    | scr => obtain ⟨a, f1, f2⟩ := q; exact ⟨a, f1, hS.seq f2⟩
end
section
variable {X : Xb} {e : Expr} {te : TE} {we : WE} {tt : TT} {wt : WT} {tf : TE} {wf : WF}
def dLendNT (n h : Nat) (wt : WT) : WT := fun γ Q => ∃ m L, γ[h]? = some (.hp m L) ∧ wt (lentN n L γ) fun b _ => Q b γ
def dLendNE (n h : Nat) (we : WE) : WE := fun γ Q => ∃ m L, γ[h]? = some (.hp m L) ∧ we (lentN n L γ) fun d _ => noL d = true ∧ Q d γ
def dLendNF (n h : Nat) (wf : WF) : WF := fun γ Q => ∃ m L, γ[h]? = some (.hp m L) ∧ wf (lentN n L γ) fun ds _ => noLs ds = true ∧ Q ds γ
theorem st_lendN (n h : Nat) (k : ST X.noX tt wt) : ST X tt (dLendNT n h wt) := ⟨fun γ P P' kk ⟨m, L, g, q⟩ => ⟨m, L, g, k.mono _ _ _ (fun b γ1 q => kk _ _ q) q⟩, fun B S H σ γ Q R ⟨m, L, g, q⟩ => by
  obtain ⟨S', e1, _, R1⟩ := R.lendU (n := n) ⟨h, m, g⟩ lentN_len fun i s => lentN_at
  exact k.run _ S' H σ _ Q R1.no (k.mono _ _ _ (fun b γ1 z S1 H1 C e2 => z S H1 (R.backG C.r) (Same.refl S)) q)⟩
theorem se_lendN (n h : Nat) (k : SE X.noX te we) : SE X te (dLendNE n h we) := ⟨fun γ P P' kk ⟨m, L, g, q⟩ => ⟨m, L, g, k.mono _ _ _ (fun b γ1 q => ⟨q.1, kk _ _ q.2⟩) q⟩, fun B S H σ γ Q R ⟨m, L, g, q⟩ => by
  obtain ⟨S', e1, hl, R1⟩ := R.lendU (n := n) ⟨h, m, g⟩ lentN_len fun i s => lentN_at
  refine k.run _ S' H σ _ Q R1.no (k.mono _ _ _ (fun d γ1 ⟨f, z⟩ v S1 H1 C e2 dn => ?_) q)
  obtain ⟨S2, C2, e3, ht, _⟩ := R.r.backZ e1 hl C.r
  exact z v S2 H1 (R.call C2) e3 (Den.noL ht d v dn f)⟩
theorem dt_lendN (n h : Nat) (k : DT X.noX e tt wt) : DT X e tt (dLendNT n h wt) := ⟨k.pt, st_lendN n h k.st⟩
theorem de_lendN (n h : Nat) (k : DE X.noX e te we) : DE X e te (dLendNE n h we) := ⟨k.pe, se_lendN n h k.se⟩
end
section
variable {γ : List Sl} {n h : Nat} {we : WE} {wt : WT} {wf : WF} {Q : D → List Sl → Prop} {QT : Bool → List Sl → Prop} {QF : List D → List Sl → Prop}
instance : GoH2 (dLendNT n h wt γ QT) (∃ m L, γ[h]? = some (.hp m L) ∧ wt (lentN n L γ) fun b _ => QT b γ) := ⟨fun z => z⟩
instance : GoH2 (dLendNE n h we γ Q) (∃ m L, γ[h]? = some (.hp m L) ∧ we (lentN n L γ) fun d _ => noL d = true ∧ Q d γ) := ⟨fun z => z⟩
instance : GoH2 (dLendNF n h wf γ QF) (∃ m L, γ[h]? = some (.hp m L) ∧ wf (lentN n L γ) fun ds _ => noLs ds = true ∧ QF ds γ) := ⟨fun z => z⟩
end
/-! ### a comprehension over a value's list, or over a list in a box -/
def OnIt (h : Nat) (d : D) (es : List D) (γ : List Sl) : Prop := d = .lst es ∨ ∃ q, d = .ref q ∧ OnBox h q es γ
def LcB (h : Nat) (d : D) (γ : List Sl) (wg : WG) (we : WE) (vs : List Nat) (QF : List D → List Sl → Prop) : Prop := ∃ es, OnIt h d es γ ∧ es.length ≤ sizeLine ∧ (∀ v ∈ vs, ∀ s, γ[v]? = some s → s = .any) ∧ ∃ I : Nat → List D → List Sl → Prop, I 0 [] γ ∧
  (∀ i acc γ x, es[i]? = some x → I i acc γ → OnIt h d es γ ∧ (∀ v ∈ vs, ∀ s, γ[v]? = some s → s = .any) ∧ wg x γ fun γ2 => we γ2 fun y γ4 => I (i + 1) (acc ++ [y]) (wipeG γ4 vs)) ∧
  ∀ acc γ, I es.length acc γ → OnIt h d es γ ∧ (∀ v ∈ vs, ∀ s, γ[v]? = some s → s = .any) ∧ QF acc γ
def dLcB (h : Nat) (wi : WE) (wg : WG) (we : WE) (vs : List Nat) : WF := fun γ Q => wi γ fun d γ1 => LcB h d γ1 wg we vs Q
section
variable {X : Xb}
theorem Rel.onIt {B : Bs} {S H : Hp} {σ : L2.St} {γ : List Sl} {h : Nat} {d : D} {es : List D} {a : Addr} (R : Rel X B S H σ γ) (dn : Den S (.ref a) d) (o : OnIt h d es γ) : ∃ xs, H a = some (.lst xs) ∧ DenL S xs es := by
  rcases o with rfl | ⟨q, rfl, m, L, g, l⟩
  · obtain ⟨b, xs, e, h1, h2⟩ := dn.lst_inv
    cases e
    exact ⟨xs, R.same _ _ h1, h2⟩
  · cases dn.ref_inv
    exact R.boxL g l
theorem Den.addr {B : Bs} {S H : Hp} {σ : L2.St} {γ : List Sl} {h : Nat} {d : D} {es : List D} {v : V} (dn : Den S v d) (o : OnIt h d es γ) : ∃ a, v = .ref a := by
  rcases o with rfl | ⟨q, rfl, _⟩
  · obtain ⟨b, xs, e, _, _⟩ := dn.lst_inv
    exact ⟨b, e⟩
  · exact ⟨q, dn.ref_inv⟩
theorem sf_lcB {h : Nat} {ti : TE} {wi : WE} {g : TG} {wg : WG} {te : TE} {we : WE} {tt : TT} {vs : List Nat} (hi : SE X ti wi) (hg : SG X g wg) (hgi : GIn g vs) (hgm : ∀ v σ H (P P' : L2.St → Hp → Prop), (∀ σ' H', P σ' H' → P' σ' H') → g v σ H P → g v σ H P') (ht : ST X tt dYes) (he : SE X te we) : SF X (tLc (iList X.K ti) g tt te vs) (dLcB h wi wg we vs) := by
  refine ⟨fun γ P P' k q => hi.mono γ _ _ (fun d γ1 ⟨es, o, hz, ha, I, h0, hs, hd⟩ => ⟨es, o, hz, ha, I, h0, hs, fun acc γ q => ⟨(hd acc γ q).1, (hd acc γ q).2.1, k _ _ (hd acc γ q).2.2⟩⟩) q, fun B S H σ γ Q R q => ?_⟩
  refine hi.run B S H σ γ _ R (hi.mono γ _ _ (fun d γ1 ⟨es, o, hz, ha, I, h0, hs, hd⟩ v S1 H1 R1 e1 dn => ?_) q)
  obtain ⟨a, rfl⟩ := Den.addr (B := B) (H := H1) (σ := σ) dn o
  obtain ⟨xs0, h1, d1⟩ := R1.onIt dn o
  refine ⟨a, rfl, ⟨xs0, SqL.of h1⟩, fun A hA => ?_⟩
  refine ⟨fun i m H => m = es.length - i ∧ i ≤ es.length ∧ ∃ S2 γ2 acc xs, Rel X (B.fram A (.lst xs)) S2 H (L2.wipe σ vs) γ2 ∧ Same S1 S2 ∧ I i acc γ2 ∧ acc.length ≤ i ∧ DenL S2 xs acc, ⟨es.length, by simp, Nat.zero_le _, S1, γ1, [], [], (R1.newF hA).wiped ha, Same.refl S1, h0, Nat.le_refl _, .nil⟩, ?_⟩
  rintro i m H2 ⟨rfl, hi2, S2, γ2, acc, xs, R2, e2, hI, hal, k5⟩
  by_cases hlt : i < es.length
  · obtain ⟨o2, hany, body⟩ := hs i acc γ2 es[i] (List.getElem?_eq_getElem hlt) hI
    obtain ⟨xs2, h2, d2⟩ := R2.onIt (dn.mono e2) o2
    have hx2 : i < xs2.length := by rw [d2.1]; exact hlt
    refine .inr ⟨⟨xs2, xs2[i], SqL.of h2, List.getElem?_eq_getElem hx2⟩, fun H' => i + 1 ≤ es.length ∧ ∃ S3 γ3 acc xs, Rel X (B.fram A (.lst xs)) S3 H' (L2.wipe σ vs) γ3 ∧ Same S1 S3 ∧ I (i + 1) acc γ3 ∧ acc.length ≤ i + 1 ∧ DenL S3 xs acc, fun H' q => ⟨_, by omega, rfl, q⟩, fun x H' y => ?_⟩
    obtain ⟨eH, y⟩ := y
    subst eH
    have dx := d2.2 i x es[i] (y xs2 (SqL.of h2)) (List.getElem?_eq_getElem hlt)
    refine hgm _ _ _ _ _ (fun σ4 H4 ⟨w4, q4⟩ => ⟨w4.trans (wipe_wipe vs vs fun _ h => h), q4 (w4.trans (wipe_wipe vs vs fun _ h => h))⟩) (hgi _ _ _ (fun σ4 H4 => L2.wipe σ4 vs = L2.wipe σ vs → tt σ4 H4 _) ?_)
    refine hg.run _ S2 H' _ γ2 x _ _ R2 dx (hg.mono _ _ _ _ (fun γ4 body σ4 R4 w4 => ?_) body)
    refine ht.run _ S2 H' σ4 γ4 _ R4 ?_
    intro S5 H5 R5 e5
    have back : ∀ {S6 : Hp} {H6 : Hp} {γ6 : List Sl}, Rel X (B.fram A (.lst xs)) S6 H6 σ4 γ6 → Rel X (B.fram A (.lst xs)) S6 H6 (L2.wipe σ vs) (wipeG γ6 vs) := fun {S6 H6 γ6} R6 => by
      have W := (R6.wipe vs).wiped wipeG_any
      rw [w4] at W
      exact W
    rw [if_pos rfl]
    refine he.run _ S5 H5 σ4 _ _ R5 (he.mono _ _ _ (fun y γ6 body v S6 H6 R6 e6 d6 => ?_) body)
    have W := back R6
    have e7 : Same S2 S6 := e5.trans e6
    exact ⟨xs, W.unfram.2.1, by rw [k5.1]; omega, hlt, S6, _, acc ++ [y], xs ++ [v], W.chgF, e2.trans e7, body, by rw [List.length_append, List.length_singleton]; omega, (k5.mono e7).snoc d6⟩
  · have e : i = es.length := by omega
    subst e
    obtain ⟨o2, g1, g2⟩ := hd acc γ2 hI
    obtain ⟨xs2, h2, d2⟩ := R2.onIt (dn.mono e2) o2
    exact .inl ⟨⟨xs2, SqL.of h2, by rw [d2.1]; exact Nat.le_refl _⟩, g2 A xs S2 H2 (R2.unwiped g1) (e1.trans e2) k5⟩
theorem df_lcB (h0 : Nat) {elt tg iter : Expr} {scope : Scope} {own : List (Str × Nat)} {pos : Pos} {ti : TE} {wi : WE} {g : TG} {wg : WG} {te : TE} {we : WE} (K' : PySem.W.Frag) (hc : X.calm = true) (hN : X.N.Nodup) (hi : DE X iter ti wi) (ok : BlkOk X.N X.env.scope scope own)
    (hg : ∀ (s : Shared) (H : Hp) (C : Addr) (cl : List (Str × Addr)) (fp : List Addr), DG (X.blk s H scope (compEnvC scope cl C X.env) fp) tg g wg) (hgi : GIn g (own.map (·.2))) (hgm : GMo g)
    (he : ∀ (s : Shared) (H : Hp) (C : Addr) (cl : List (Str × Addr)) (fp : List Addr), DE (X.blk s H scope (compEnvC scope cl C X.env) fp) elt te we) (hs : ∀ x, foldedSetIterable iter X.env x = pure x := by intro _; rfl) (hK : X.K = K' := by rfl) :
    DF X (.ListComp elt [⟨tg, iter, [], 0⟩] scope pos) (tLc (iList K' ti) g tYes te (own.map (·.2))) (dLcB h0 wi wg we (own.map (·.2))) := by
  subst hK
  exact ⟨pe_lc hc hN (pi_list hi.pe) ok (fun s H C cl fp => (hg s H C cl fp).pg) (fun s H C cl fp => pts_nil) (fun s H C cl fp => (he s H C cl fp).pe) hs,
   sf_lcB hi.se (hg X.s_0 X.H_0 0 [] []).sg.ofBlk hgi hgm (dts_nil (X := X.blk X.s_0 X.H_0 scope (compEnvC scope [] 0 X.env) [])).st.ofBlk (he X.s_0 X.H_0 0 [] []).se.ofBlk⟩
theorem ds_setLcI (h0 : Nat) {i : Nat} {y : Str} {py : Pos} {elt tg iter : Expr} {scope : Scope} {own : List (Str × Nat)} {pos spos : Pos} {ti : TE} {wi : WE} {g : TG} {wg : WG} {te : TE} {we : WE} (K' : PySem.W.Frag) (hc : X.calm = true) (hN : X.N.Nodup) (hi : DE X iter ti wi) (ok : BlkOk X.N X.env.scope scope own)
    (hg : ∀ (s : Shared) (H : Hp) (C : Addr) (cl : List (Str × Addr)) (fp : List Addr), DG (X.blk s H scope (compEnvC scope cl C X.env) fp) tg g wg) (hgi : GIn g (own.map (·.2))) (hgm : GMo g)
    (he : ∀ (s : Shared) (H : Hp) (C : Addr) (cl : List (Str × Addr)) (fp : List Addr), DE (X.blk s H scope (compEnvC scope cl C X.env) fp) elt te we)
    (hy : X.N[i]? = some y := by rfl) (hyl : X.env.scope.names.lookup y = some .local := by rfl)
    (hsw : swapsWith (.ListComp elt [⟨tg, iter, [], 0⟩] scope pos) (some (.Name y py)) spos.line X.env = pure true := by exact sw_true rfl rfl rfl (by decide +kernel)) (hs : ∀ x, foldedSetIterable iter X.env x = pure x := by intro _; rfl) (hK : X.K = K' := by rfl) :
    DS X (.Assign [.Name y py] (.ListComp elt [⟨tg, iter, [], 0⟩] scope pos) spos) (tAsg (tLc (iList K' ti) g tYes te (own.map (·.2))) (gName i)) (dSetO i (dLcB h0 wi wg we (own.map (·.2)))) := by
  subst hK
  have h : SF X (tLc (iList X.K ti) g tYes te (own.map (·.2))) (dLcB h0 wi wg we (own.map (·.2))) := sf_lcB hi.se (hg X.s_0 X.H_0 0 [] []).sg.ofBlk hgi hgm (dts_nil (X := X.blk X.s_0 X.H_0 scope (compEnvC scope [] 0 X.env) [])).st.ofBlk (he X.s_0 X.H_0 0 [] []).se.ofBlk
  exact ⟨ps_setLc hc hN hy hyl hsw (pi_list hi.pe) ok (fun s H C cl fp => (hg s H C cl fp).pg) (fun s H C cl fp => pts_nil) (fun s H C cl fp => (he s H C cl fp).pe) hs,
   ⟨fun B S0 S H σ γ Dd D R e L q => h.run B S H σ γ _ R (h.mono γ _ _ (fun ds γ1 q p xs S1 H1 R1 e1 k4 => L.nx S1 H1 _ _ (e.trans e1) (R1.setOwn k4) q) q)⟩⟩
end
section
variable {γ : List Sl} {h : Nat} {wi : WE} {wg : WG} {we : WE} {vs : List Nat} {QF : List D → List Sl → Prop}
instance : Go (dLcB h wi wg we vs γ QF) (wi γ fun d γ1 => LcB h d γ1 wg we vs QF) := ⟨fun z => z⟩
end
/-! ### *items among arguments, the items in a box perhaps -/
section
variable {X : Xb} {e : Expr} {es : List Expr} {te : TE} {we : WE} {t : TA} {w : WA} {p : Pos}
def dStarB (h : Nat) (we : WE) (w : WA) : WA := fun γ Q => we γ fun d γ1 => ∃ xs, OnIt h d xs γ1 ∧ w γ1 fun ds γ2 => Q (xs ++ ds) γ2
theorem da_starB (K' : PySem.W.Frag) (h0 : Nat) (he : DE X e te we) (h : DA X es t w) (hs : starEach (.Starred e p :: es) X.env = (true, eval e X.env) :: starEach es X.env := by rfl) (hK : X.K = K' := by rfl) : DA X (.Starred e p :: es) (StX.tStar K' te t) (dStarB h0 we w) := by
  subst hK
  refine ⟨StX.pa_star he.pe h.pa hs, fun γ P P' k q => he.se.mono γ _ _ (fun x γ1 ⟨xs, e, q⟩ => ⟨xs, e, h.sa.mono γ1 _ _ (fun ds γ2 q => k _ _ q) q⟩) q, fun B S H σ γ Q R q => ?_⟩
  refine he.se.run B S H σ γ _ R (he.se.mono γ _ _ (fun x γ1 ⟨xs, o, q⟩ v S1 H1 R1 e1 d1 => ?_) q)
  obtain ⟨a, rfl⟩ := Den.addr (B := B) (H := H1) (σ := σ) d1 o
  obtain ⟨ys, h1, d2⟩ := R1.onIt d1 o
  exact ⟨a, ys, rfl, .inr (SqL.of h1), h.sa.run B S1 H1 σ γ1 _ R1 (h.sa.mono γ1 _ _ (fun ds γ2 q vs S2 H2 R2 e2 d3 => q _ S2 H2 R2 (e1.trans e2) ((d2.mono e2).append d3)) q)⟩
end
section
variable {γ : List Sl} {h : Nat} {we : WE} {w : WA} {Q : List D → List Sl → Prop}
instance : Go (dStarB h we w γ Q) (we γ fun d γ1 => ∃ xs, OnIt h d xs γ1 ∧ w γ1 fun ds γ2 => Q (xs ++ ds) γ2) := ⟨fun z => z⟩
end
end DL
set_option Elab.async false
set_option linter.all false
set_option autoImplicit false
set_option maxRecDepth 100000
set_option maxHeartbeats 4000000
/-! DL71: list(reversed(x)), x a list. -/
namespace DL
open PySem PySem.Spec PyProof.Rows L2 RT
section
variable {pr : Program} {wo : World} {Ar : Around} {st : Shared} {Rs : Result → Shared → Prop} {Er : Value → Shared → Prop}
/-- a new list takes what a backward walk hands out -/
theorem ext_back {r l S : Addr} {its : Array Value} (h0 : Ar.handled = none) (hr : st.heap.IsRevIter r l ((its.size : Int) - 1)) (hl : st.heap.IsList l its) (hne : l ≠ r) (hn : its.size ≤ sizeLine) (h1 : S ≠ r) (h2 : S ≠ l) (res : Value) (c₀ : Nat)
    (hS : st.heap.get? S = some { cls := .type "list", data := .seq #[] c₀ })
    (k : ∀ s' acc' c', Moved (S :: [r]) (fun a b => b = a) st s' → s'.heap.get? S = some { cls := .type "list", dict := none, data := .seq acc' c', slots := #[] } → ItemsOf (fun i v => its[its.size - 1 - i]? = some v) acc' its.size → Rs (.ok (.ret res)) s') :
    wpAny (model pr wo) Ar.in1 (Builtin.List.listExtendWith (.ref S) (.ref r) res)
      (fun fin s' => match fin with | .done f => Rs (.ok f) s' | .again c' => c'.quiet = true ∧ codeAny (model pr wo) Ar c' Rs s') (fun e s' => Rs (.error e) s') st := by
  have Wk := (Walks.listRev (prog := pr) (w := wo) (A := Ar.in1) h0 r l hne its).toS
  have out : S ∉ [r, l] := by simp only [List.mem_cons, List.not_mem_nil, or_false, not_or]; exact ⟨h1, h2⟩
  have ty : st.TypeIs (.ref r) "list_reverseiterator" := hr.typeIs
  have ns : Builtin.List.listSameRef (.ref S) (.ref r) = false := by simp [Builtin.List.listSameRef, h1]
  unfold Builtin.List.listExtendWith
  refine wpAny_bind (wpAny_typeOf ty ?_)
  rw [if_neg (by rw [ns]; decide)]
  refine wpAny_bind (wpAny_pyIter_revIter hr ?_)
  refine wpAny_bind (wpAny_holding ?_)
  unfold Builtin.List.listLengthHint
  refine wpAny_bind (wpAny_specialOf ty nolen_lri ?_)
  show wpAny _ Ar.in1 (specialOf (Value.ref r) (Str.ofString "__length_hint__") >>= _) _ _ _
  refine wpAny_bind (wpAny_specialOf ty hint_lri ?_)
  generalize hj : ("list_reverseiterator.__length_hint__" : String) = j
  wp_delta
  rw [show splitId j = some ("list_reverseiterator", "__length_hint__") from by subst hj; decide +kernel]
  subst hj
  refine wpAny_bind (wpAny_isInstance (b := true) ty (by rw [isSubtype_type]; kernel_rfl) ?_)
  refine wpAny_pure ?_
  rw [if_neg (by decide)]
  have z : ((its.size : Nat) : Int) - 1 - ((0 : Nat) : Int) = (its.size : Int) - 1 := by omega
  exact wpAny_pure ⟨plainId_quiet F.plain_extend_loop _, codeAny_extend_loopS Wk hn _ out _ its.size 0 _ _ _ rfl (Nat.zero_le _) ⟨Nat.zero_le _, by rw [z]; exact hr, hl⟩ hS (ItemsOf.nil _) k⟩
/-- list(r), r a backward walk over a list -/
theorem list_back {r l : Addr} {its : Array Value} {Qv : Value → Shared → Prop} (h0 : Ar.handled = none) (hr : st.heap.IsRevIter r l ((its.size : Int) - 1)) (hl : st.heap.IsList l its) (hne : l ≠ r) (hn : its.size ≤ sizeLine)
    (k : ∀ h' tk acc c, (∀ b o, b ≠ r → st.heap.get? b = some o → h'.get? b = some o) → h'.get? st.heap.objs.size = some { cls := .type "list", dict := none, data := .seq acc c, slots := #[] } → ItemsOf (fun i v => its[its.size - 1 - i]? = some v) acc its.size → Qv (.ref st.heap.objs.size) { st with heap := h', toks := tk }) :
    wpAny (model pr wo) Ar (call (.type "list") [.ref r]) Qv Er st := by
  obtain ⟨oi, hoi, _⟩ := id hr
  obtain ⟨ol, hol, _⟩ := id hl
  have d1 : st.heap.objs.size ≠ r := Nat.ne_of_gt (Heap.lt_size hoi)
  have d2 : st.heap.objs.size ≠ l := Nat.ne_of_gt (Heap.lt_size hol)
  refine callType_codes (Q₁ := fun x t => x = .ref st.heap.objs.size ∧ t = { st with heap := st.heap.push { cls := .type "list", data := .seq #[] } }) F.called_list (F.typeCall_list_1 _) F.entry_list_init (code_list_new _ ⟨rfl, rfl⟩) fun x t hx => ?_
  obtain ⟨rfl, rfl⟩ := hx
  have g1 : (st.heap.push { cls := .type "list", data := .seq #[] }).get? st.heap.objs.size = some { cls := .type "list", data := .seq #[] } := Heap.get?_push_size _ rfl
  refine ⟨⟨_, g1, rfl⟩, F.args_list_init_2 _ _, ?_⟩
  show wpAny _ Ar.in1.in1 (do let old ← Builtin.List.listItems (.ref st.heap.objs.size); Builtin.List.listUpdate (.ref st.heap.objs.size) (fun _ => #[]); letGo old.toList.reverse; Builtin.List.listExtendWith (.ref st.heap.objs.size) (.ref r) .none) _ _ _
  refine wpAny_bind ?_
  unfold Builtin.List.listItems
  refine wpAny_bind (wpAny_seqItems g1 rfl (wpAny_pure ?_))
  refine wpAny_bind ?_
  show wpAny _ _ (updateSeq st.heap.objs.size (fun _ => #[])) _ _ _
  refine wpAny_updateSeq g1 rfl ?_
  have g2 := Heap.get?_update_self (Obj.mapSeq (fun _ => (#[] : Array Value))) g1 rfl
  have keep : ∀ b o, b ≠ st.heap.objs.size → st.heap.get? b = some o → ((st.heap.push { cls := .type "list", data := .seq #[] }).update st.heap.objs.size (Obj.mapSeq (fun _ => (#[] : Array Value)))).get? b = some o := fun b o hb e => (Heap.get?_update_other _ _ (Ne.symm hb)).trans (Heap.get?_push_of_some _ e)
  refine wpAny_bind (wpAny_letGo ?_)
  refine ext_back (st := { st with heap := (st.heap.push { cls := .type "list", data := .seq #[] }).update st.heap.objs.size (Obj.mapSeq (fun _ => (#[] : Array Value))) }) (Ar := Ar.in1) h0 (hr.at fun o e => keep r o (Ne.symm d1) e) ?_ hne hn d1 d2 .none _ g2 fun s' acc c hm hS' hacc => ?_
  · obtain ⟨o, ho, q⟩ := id hl
    exact ⟨o, keep l o (Ne.symm d2) ho, q⟩
  · refine ⟨rfl, ?_⟩
    rw [Moved.eq_with hm]
    refine k s'.heap s'.toks acc c (fun b o hb e => hm.heap b o (fun hm' => ?_) (keep b o (Nat.ne_of_lt (Heap.lt_size e)) e)) hS' hacc
    rcases List.mem_cons.mp hm' with z | z
    · exact absurd (Heap.lt_size e) (by rw [z]; exact Nat.lt_irrefl _)
    · exact hb (List.mem_singleton.mp z)
end
def tListRev (K : PySem.W.Frag) (te : TE) : TE := fun σ H Q => te σ H fun v H1 => ∃ (a : Addr) (xs : List V), v = .ref a ∧ SqL K H1 a xs ∧ ∀ q, H1 q = none → Q (.ref q) (upd H1 q (.lst xs.reverse))
section
variable {X : Cx}
theorem pe_listRev {e : Expr} {te : TE} {p p2 pos pos2 : Pos} (hc : X.calm = true) (hg : Gl X "list") (hm : X.mg "list" = none) (hg2 : Gl X "reversed") (hm2 : X.mg "reversed" = none) (he : PE X e te)
    (hs : starEach [e] X.env = (false, eval e X.env) :: starEach [] X.env := by rfl)
    (hs2 : starEach [.Call (.Name "reversed" p2) [e] [] pos2] X.env = (false, eval (.Call (.Name "reversed" p2) [e] [] pos2) X.env) :: starEach [] X.env := by rfl) :
    PE X (.Call (.Name "list" p) [.Call (.Name "reversed" p2) [e] [] pos2] [] pos) (tListRev X.K te) := by
  refine ⟨fun pins s σ H Q I h => ?_⟩
  refine Call_ (ld_blt I hg hm boot_list (callWith_type1 (args_cons (Call_ (ld_blt I hg2 hm2 boot_reversed (callWith_type1 (args_cons (thn (he.run pins s σ H _ I h) fun u s1 ⟨v, H1, I1, r1, q1⟩ => args_nil ?_) hs) hs rfl))) hs2) hs2 rfl))
  obtain ⟨a, xs, rfl, hq, q⟩ := q1
  obtain rfl : u = Value.ref a := r1
  obtain ⟨its, rv, p', hz⟩ := I1.list hq
  refine call_reversed_list p'.isList (args_nil ?_)
  have hl := p'.isList
  obtain ⟨ol, hol, _⟩ := id hl
  have hne : a ≠ s1.heap.objs.size := Nat.ne_of_lt (Heap.lt_size hol)
  have hn : its.toArray.size ≤ sizeLine := by rw [List.size_toArray, ← rv.length]; exact hz
  refine list_back (st := { s1 with heap := s1.heap.push (revObj a ((its.toArray.size : Int) - 1)) }) (I1.ok.hd hc) ⟨_, Heap.get?_push_size _ rfl, rfl, rfl⟩ (hl.push _) hne hn fun h' tk acc c hk hS hi => ?_
  have far : s1.heap.objs.size ≤ (s1.heap.push (revObj a ((its.toArray.size : Int) - 1))).objs.size := by
    show _ ≤ (s1.heap.objs.push _).size
    rw [Array.size_push]
    omega
  have old : ∀ b u, s1.heap.get? b = some u → h'.get? b = some u := fun b u e => hk b u (Nat.ne_of_lt (Heap.lt_size e)) (Heap.get?_push_of_some _ e)
  exact ⟨.ref _, upd H1 _ (.lst xs.reverse), I1.laid (t' := tk) old far (show ObjOk X.prog X.w _ _ _ (.lst xs.reverse) from ⟨by rw [List.length_reverse]; exact hz, acc.toList, c, vals_rev rv hi, by rw [Array.toArray_toList]; exact hS⟩), rfl, q _ (I1.hok.fresh far)⟩
end
def dListRev (we : WE) : WF := fun γ Q => we γ fun d γ1 => ∃ ds, d = .lst ds ∧ Q ds.reverse γ1
section
variable {X : Xb}
theorem DenL.rev {S : Hp} {xs : List V} {ds : List D} (h : DenL S xs ds) : DenL S xs.reverse ds.reverse := by
  refine ⟨by rw [List.length_reverse, List.length_reverse]; exact h.1, fun i x d h1 h2 => ?_⟩
  have hx : i < xs.length := by
    have := (List.getElem?_eq_some_iff.mp h1).1
    rwa [List.length_reverse] at this
  rw [List.getElem?_reverse hx] at h1
  rw [List.getElem?_reverse (by rw [← h.1]; exact hx), ← h.1] at h2
  exact h.2 _ x d h1 h2
theorem df_listRev {e : Expr} {te : TE} {we : WE} {p p2 pos pos2 : Pos} (K' : PySem.W.Frag) (hm : X.mg "list" = none) (hm2 : X.mg "reversed" = none) (he : DE X e te we) (hc : X.calm = true := by rfl) (hg : Gl X "list" := by rfl) (hg2 : Gl X "reversed" := by rfl)
    (hs : starEach [e] X.env = (false, eval e X.env) :: starEach [] X.env := by rfl)
    (hs2 : starEach [.Call (.Name "reversed" p2) [e] [] pos2] X.env = (false, eval (.Call (.Name "reversed" p2) [e] [] pos2) X.env) :: starEach [] X.env := by rfl) (hK : X.K = K' := by rfl) :
    DF X (.Call (.Name "list" p) [.Call (.Name "reversed" p2) [e] [] pos2] [] pos) (tListRev K' te) (dListRev we) := by
  subst hK
  refine ⟨pe_listRev hc hg hm hg2 hm2 he.pe hs hs2, fun γ P P' k q => he.se.mono γ _ _ (fun d γ1 ⟨ds, e, z⟩ => ⟨ds, e, k _ _ z⟩) q, fun B S H σ γ Q R q => ?_⟩
  refine he.se.run B S H σ γ _ R (he.se.mono γ _ _ (fun d γ1 ⟨ds, e, z⟩ v S1 H1 R1 e1 dn => ?_) q)
  subst e
  obtain ⟨a, xs, rfl, h1, h2⟩ := dn.lst_inv
  exact ⟨a, xs, rfl, SqL.of (R1.same _ _ h1), fun q hq => z q xs.reverse S1 _ (R1.newF hq) e1 h2.rev⟩
end
section
variable {γ : List Sl} {we : WE} {QF : List D → List Sl → Prop}
instance : Go (dListRev we γ QF) (we γ fun d γ1 => ∃ ds, d = .lst ds ∧ QF ds.reverse γ1) := ⟨fun z => z⟩
end
end DL
set_option Elab.async false
set_option linter.all false
set_option autoImplicit false
set_option maxRecDepth 100000
set_option maxHeartbeats 4000000
namespace Kx
open PySem PySem.Spec PyProof.Rows L2 DL
structure Blt (mg : Str → Option Value) : Prop where
  range : mg "range" = none
  enumerate : mg "enumerate" = none
  zip : mg "zip" = none
  sum : mg "sum" = none
  len : mg "len" = none
  int : mg "int" = none
  list : mg "list" = none
  isinstance : mg "isinstance" = none
  bool : mg "bool" = none
  str : mg "str" = none
  tuple : mg "tuple" = none
  abs : mg "abs" = none
  all : mg "all" = none
  any : mg "any" = none
  sorted : mg "sorted" = none
  reversed : mg "reversed" = none
  min : mg "min" = none
  max : mg "max" = none
  ValueError : mg "ValueError" = none
set_option autoImplicit false
namespace Mx
def sumTo (f : Nat → Int) : Nat → Int
  | 0 => 0
  | n + 1 => sumTo f n + f n
def ent (m : List Int) (i : Nat) : Int := m.getD i 0
def Bd (k : Nat) (xs : List Int) : Prop := ∀ x ∈ xs, x.natAbs < 2 ^ k
theorem Bd.ent {k : Nat} {xs : List Int} (h : Bd k xs) (i : Nat) : (ent xs i).natAbs < 2 ^ k := by
  unfold Mx.ent
  rw [List.getD_eq_getElem?_getD]
  cases q : xs[i]? with
  | none => exact Nat.pow_pos (by decide)
  | some x => exact h x (List.mem_of_getElem? q)
theorem Bd.le {j k : Nat} {xs : List Int} (h : Bd j xs) (hk : j ≤ k) : Bd k xs := fun x hx => Nat.lt_of_lt_of_le (h x hx) (Nat.pow_le_pow_right (by decide) hk)
def mulA (w : Nat) (one other : List Int) (i n j : Nat) : Int := sumTo (fun k => ent other (w * i + k) * ent one (w * k + j)) n
def mulL (w : Nat) (one other : List Int) : List Int := (List.range (w * w)).map fun t => mulA w one other (t / w) w (t % w)
def imgA (w : Nat) (m v : List Int) (i n : Nat) : Int := sumTo (fun j => ent m (w * i + j) * ent v j) n
def imgL (w : Nat) (m v : List Int) : List Int := (List.range w).map fun i => imgA w m v i w
def unitL (w : Nat) : List Int := (List.range (w * w)).map fun t => if t % (w + 1) = 0 then 1 else 0
end Mx

/-! ### books, as plain data -/
namespace Mx
end Mx
namespace Lin
end Lin
namespace Bk
/-- a statement, as plain data -/
inductive Sm where
  | set (c : Nat) (row : List Int)
  | carry (row : List Int)
  | end_ (b : Nat)
  | keep (cs : List Int) (b : List Sm)
  | again (b : List Sm)
  | either (a b : List Sm)
  | call (p : Nat) (row : List Int) (a b : List Sm)
def il (ns : List Int) : List D := ns.map D.int
mutual
def stD : Sm → D
  | .set c r => .tup [.str "set", .int (c : Nat), .lst (il r)]
  | .carry r => .tup [.str "carry", .lst (il r)]
  | .end_ b => .tup [.str "end", .int (b : Nat)]
  | .keep cs b => .tup [.str "keep", .lst (il cs), .lst (blD b)]
  | .again b => .tup [.str "again", .lst (blD b)]
  | .either a b => .tup [.str "either", .lst (blD a), .lst (blD b)]
  | .call p r a b => .tup [.str "call", .int (p : Nat), .lst (il r), .lst [.lst (blD a), .lst (blD b)]]
def blD : List Sm → List D
  | [] => []
  | s :: b => stD s :: blD b
end
mutual
/-- levels of blocks within -/
def dep : Sm → Nat
  | .keep _ b => depB b + 1
  | .again b => depB b + 1
  | .either a b => max (depB a) (depB b) + 1
  | .call _ _ a b => max (depB a) (depB b) + 1
  | _ => 0
def depB : List Sm → Nat
  | [] => 0
  | s :: b => max (dep s) (depB b)
end
mutual
/-- the number of statements -/
def cnt : Sm → Nat
  | .keep _ b => cntB b + 1
  | .again b => cntB b + 1
  | .either a b => cntB a + cntB b + 1
  | .call _ _ a b => cntB a + cntB b + 1
  | _ => 1
def cntB : List Sm → Nat
  | [] => 0
  | s :: b => cnt s + cntB b
end
def blocks : Sm → List (List Sm)
  | .keep _ b => [b]
  | .again b => [b]
  | .either a b => [a, b]
  | .call _ _ a b => [a, b]
  | _ => []
theorem blD_map : ∀ b : List Sm, blD b = b.map stD
  | [] => rfl
  | s :: b => by rw [blD, blD_map b]; rfl
theorem dep_mem : ∀ {b : List Sm} {s : Sm}, s ∈ b → dep s ≤ depB b
  | x :: b, s, h => by
    unfold depB
    rcases List.mem_cons.mp h with z | z
    · subst z; exact Nat.le_max_left ..
    · exact Nat.le_trans (dep_mem z) (Nat.le_max_right ..)
theorem dep_blocks {s : Sm} {b : List Sm} (h : b ∈ blocks s) : depB b + 1 ≤ dep s := by
  cases s <;> unfold blocks at h <;> unfold dep
  all_goals simp at h
  all_goals first
    | (subst h; exact Nat.le_refl _)
    | (rcases h with h | h <;> subst h <;> omega)
/-- a row, a list of cells -/
def Row (c : Nat) (r : List Int) : Prop := r.length = c + 2 ∧ ∀ x ∈ r, -9 ≤ x ∧ x ≤ 9
def Cells (c : Nat) (cs : List Int) : Prop := (∀ x ∈ cs, 0 ≤ x ∧ x < (c : Int)) ∧ cs.Pairwise (· < ·)
mutual
/-- a statement of a book of c cells and m procedures, with at most k levels within -/
def wf (c m : Nat) : Nat → Sm → Prop
  | _, .set i r => i < c ∧ Row c r
  | _, .carry r => Row c r
  | _, .end_ b => b < 2
  | k, .keep cs b => 0 < k ∧ Cells c cs ∧ b.length ≤ 8 ∧ wfL c m (k - 1) b
  | k, .again b => 0 < k ∧ b.length ≤ 8 ∧ wfL c m (k - 1) b
  | k, .either a b => 0 < k ∧ (a.length ≤ 8 ∧ wfL c m (k - 1) a) ∧ b.length ≤ 8 ∧ wfL c m (k - 1) b
  | k, .call p r a b => 0 < k ∧ (p < m ∧ Row c r) ∧ (a.length ≤ 8 ∧ wfL c m (k - 1) a) ∧ b.length ≤ 8 ∧ wfL c m (k - 1) b
def wfL (c m : Nat) : Nat → List Sm → Prop
  | _, [] => True
  | k, s :: b => wf c m k s ∧ wfL c m k b
end
theorem wfL_mem {c m k : Nat} : ∀ {b : List Sm} {s : Sm}, wfL c m k b → s ∈ b → wf c m k s
  | x :: b, s, h, hs => by
    unfold wfL at h
    rcases List.mem_cons.mp hs with z | z
    · subst z; exact h.1
    · exact wfL_mem h.2 z
theorem wfL_of {c m k : Nat} : ∀ {b : List Sm}, (∀ s ∈ b, wf c m k s) → wfL c m k b
  | [], _ => by unfold wfL; trivial
  | x :: b, h => by
    unfold wfL
    exact ⟨h x (List.mem_cons_self ..), wfL_of fun s hs => h s (List.mem_cons_of_mem _ hs)⟩
theorem wf_blocks {c m k : Nat} {s : Sm} (h : wf c m k s) {b : List Sm} (hb : b ∈ blocks s) : 0 < k ∧ b.length ≤ 8 ∧ wfL c m (k - 1) b := by
  cases s <;> unfold blocks at hb <;> unfold wf at h
  all_goals simp at hb
  case keep => subst hb; exact ⟨h.1, h.2.2⟩
  case again => subst hb; exact ⟨h.1, h.2⟩
  case either =>
    rcases hb with z | z
    · subst z; exact ⟨h.1, h.2.1⟩
    · subst z; exact ⟨h.1, h.2.2⟩
  case call =>
    rcases hb with z | z
    · subst z; exact ⟨h.1, h.2.2.1⟩
    · subst z; exact ⟨h.1, h.2.2.2⟩
mutual
theorem dep_wf {c m : Nat} : ∀ {k : Nat} {s : Sm}, wf c m k s → dep s ≤ k
  | k, .set _ _, _ => Nat.zero_le _
  | k, .carry _, _ => Nat.zero_le _
  | k, .end_ _, _ => Nat.zero_le _
  | k, .keep cs b, h => by
    unfold wf at h; unfold dep
    have := depB_wf h.2.2.2; omega
  | k, .again b, h => by
    unfold wf at h; unfold dep
    have := depB_wf h.2.2; omega
  | k, .either a b, h => by
    unfold wf at h; unfold dep
    have h1 := depB_wf h.2.1.2
    have h2 := depB_wf h.2.2.2
    omega
  | k, .call p r a b, h => by
    unfold wf at h; unfold dep
    have h1 := depB_wf h.2.2.1.2
    have h2 := depB_wf h.2.2.2.2
    omega
theorem depB_wf {c m : Nat} : ∀ {k : Nat} {b : List Sm}, wfL c m k b → depB b ≤ k
  | k, [], _ => Nat.zero_le _
  | k, s :: b, h => by
    unfold wfL at h; unfold depB
    have h1 := dep_wf h.1
    have h2 := depB_wf h.2
    omega
end
theorem cntB_append : ∀ a b : List Sm, cntB (a ++ b) = cntB a + cntB b
  | [], b => by show cntB b = 0 + cntB b; omega
  | s :: a, b => by show cnt s + cntB (a ++ b) = cnt s + cntB a + cntB b; rw [cntB_append a b]; omega
theorem cnt_blocks (s : Sm) : cnt s = ((blocks s).map cntB).sum + 1 := by
  cases s <;> simp [cnt, blocks]
abbrev blsD (bs : List (List Sm)) : List D := bs.map fun b => .lst (blD b)
theorem blD_len (b : List Sm) : (blD b).length = b.length := by rw [blD_map, List.length_map]
/-- the bodies of a book -/
structure Bodies (c m : Nat) (bs : List (List Sm)) : Prop where
  len : bs.length = m
  body : ∀ b ∈ bs, b.length ≤ 8 ∧ wfL c m 3 b ∧ cntB b ≤ 12
end Bk


local macro_rules | `(tactic| walk_at "strside") => `(tactic| first | assumption | ((try simp only [str_len_append, len_lit, len_empty, String.reduceToList, List.length_cons, List.length_nil, Nat.zero_add, Nat.reduceAdd]); omega))
local macro_rules | `(tactic| walk_at "flats") => `(tactic| (repeat (first | exact flats_nil | refine flats_cons trivial ?_)))
local macro_rules | `(tactic| walk_at "mulside") => `(tactic| first | assumption | exact mulL (by omega) | exact mulR (by omega))
local macro_rules | `(tactic| walk_at "divside") => `(tactic| first | assumption | exact divS (by omega))
local macro_rules | `(tactic| walk_at "wp1") => `(tactic| first
  | with_reducible refine Go.go ?_
  | refine GoH1.go ⟨_, rfl, ?_⟩
  | refine GoH2.go ⟨_, _, rfl, ?_⟩
  | ((with_reducible refine ex_id ?_); first | ((with_reducible refine' i_inKd2 (b := true) ?hh ?_); (case hh => decide +kernel)) | ((with_reducible refine' i_inKd2 (b := false) ?hh ?_); (case hh => decide +kernel)) | ((with_reducible refine' i_atKd2 ?hh ?_); (case hh => first | exact kdAt_set | exact kdAt_carry | exact kdAt_keep | exact kdAt_either | exact kdAt_again | exact kdAt_call | exact kdAt_end)) | ((with_reducible refine' i_jstr ?hh ?_); (case hh => walk_at "strside")) | ((with_reducible refine' i_callPP2 ?hh ?hk ?hf ?_); (case hh => exact rfl); (case hk => exact rfl); (case hf => walk_at "flats")) | ((with_reducible refine' i_catT2 ?hh ?_); (case hh => ((try simp only [List.length_cons, List.length_nil, List.length_append, List.length_map, List.length_range]); omega))) | ((with_reducible refine' i_fld2 ?hc ?hl ?_); (case hc => assumption); (case hl => exact rfl)) | ((with_reducible refine' i_putI2 ?hh ?hc ?hl ?_); (case hh => exact rfl); (case hc => assumption); (case hl => exact Nat.le_of_ble_eq_true rfl)) | ((with_reducible refine' i_meth2 ?hl ?_); (case hl => exact rfl)) | ((with_reducible refine' i_scr2 ?hh ?_); (case hh => exact rfl)) | ((with_reducible refine' i_ir1' ?hh ?_); (case hh => ((try simp only [List.length_cons, List.length_nil, List.length_append, List.length_map, List.length_range]); omega))) | ((with_reducible refine' i_ir2' ?hh ?_); (case hh => ((try simp only [List.length_cons, List.length_nil, List.length_append, List.length_map, List.length_range]); omega))) | ((with_reducible refine' i_ixO2 ?hh ?hk ?_); (case hh => exact rfl); (case hk => exact rfl)) | ((with_reducible refine' i_sti2 ?hh ?hk ?_); (case hh => exact rfl); (case hk => exact rfl)) | ((with_reducible refine' i_cat2 ?hh ?_); (case hh => ((try simp only [List.length_cons, List.length_nil, List.length_append, List.length_map, List.length_range]); omega))) | ((with_reducible refine' i_app2 ?hh ?hk ?_); (case hh => exact rfl); (case hk => ((try simp only [List.length_cons, List.length_nil, List.length_append, List.length_map, List.length_range]); omega))) | ((with_reducible refine' i_ext2 ?hh ?hk ?_); (case hh => exact rfl); (case hk => ((try simp only [List.length_cons, List.length_nil, List.length_append, List.length_map, List.length_range]); omega))))
  | ((with_reducible refine and_id ?_); first | ((with_reducible refine' i_own ?hh ?_); (case hh => exact rfl)) | ((with_reducible refine' i_sz ?hh ?_); (case hh => ((try simp only [List.length_cons, List.length_nil, List.length_append, List.length_map, List.length_range]); omega))) | ((with_reducible refine' i_szL ?hh ?_); (case hh => ((try simp only [List.length_cons, List.length_nil, List.length_append, List.length_map, List.length_range]); omega))) | ((with_reducible refine' i_szE ?hh ?_); (case hh => ((try simp only [List.length_cons, List.length_nil, List.length_append, List.length_map, List.length_range]); omega))))
  | ((with_reducible refine or_id ?_); first | ((with_reducible refine' i_fmtI ?hh ?_); (case hh => omega)) | ((with_reducible refine' i_fmtS ?hh ?_); (case hh => walk_at "strside")))
  | ((with_reducible refine' i_mYes ?hh ?_); (case hh => decide +kernel))
  | ((with_reducible refine' i_mNo ?hh ?_); (case hh => decide +kernel))
  | ((with_reducible refine' i_strI ?hh ?_); (case hh => omega))
  | ((with_reducible refine' i_addS ?hh ?_); (case hh => walk_at "strside"))
  | ((with_reducible refine' i_callPP ?hn ?hh ?hk ?_); (case hn => decide); (case hh => exact rfl); (case hk => exact rfl))
  | ((with_reducible refine' i_retI ?hh ?_); (case hh => exact rfl))
  | ((with_reducible refine' i_varI ?hh ?_); (case hh => exact rfl))
  | ((with_reducible refine' i_fldI ?hh ?hc ?hl ?_); (case hh => exact rfl); (case hc => assumption); (case hl => exact rfl))
  | ((with_reducible refine' i_modN ?hh ?_); (case hh => first | assumption | omega))
  | ((with_reducible refine' i_fdvA ?hh ?_); (case hh => first | assumption | omega))
  | ((with_reducible refine' i_varO ?hh ?_); (case hh => exact rfl))
  | ((with_reducible refine' i_gtup ?hh ?_); (case hh => exact rfl))
  | ((with_reducible refine' i_callPL ?hn ?hh ?hk ?_); (case hn => decide); (case hh => exact rfl); (case hk => exact rfl))
  | ((with_reducible refine' i_slS ?hh ?_); (case hh => exact rfl))
  | ((with_reducible refine' i_mul ?hh ?_); (case hh => walk_at "mulside"))
  | ((with_reducible refine' i_mod ?hh ?_); (case hh => omega))
  | ((with_reducible refine' i_fdv ?hh ?_); (case hh => walk_at "divside"))
  | ((with_reducible refine' i_pow ?hh ?_); (case hh => exact ⟨by decide, by decide, by decide⟩))
  | dsimp +instances only [truD_n, truD_b, truD_i, truD_s, truD_l, truD_t, isB_o, isB_e, isI_o, isI_e, isS_o, isS_e, isL_o, isL_e, isU_o, isU_e, isB_n, isB_b, isB_i, isB_s, isB_l, isB_t, isI_n, isI_b, isI_i, isI_s, isI_l, isI_t, isS_n, isS_b, isS_i, isS_s, isS_l, isS_t, isL_n, isL_b, isL_i, isL_s, isL_l, isL_t, isU_n, isU_b, isU_i, isU_s, isU_l, isU_t, beqB_t, beqB_f, val_d, val_f, nite_f, nite_t, not_t, not_f, or_t, or_f])
local macro_rules | `(tactic| walk_at "wp") => `(tactic| repeat walk_at "wp1")

local macro_rules | `(tactic| walk_at "side") => `(tactic| first | assumption | omega | with_reducible rfl | decide +kernel | ((try simp only [str_len_append, List.length_cons, List.length_nil, List.length_append, List.length_map, List.length_range]); omega))
local macro_rules | `(tactic| walk_at "ifs") => `(tactic| first | ((with_reducible refine' i_iteDF ?hh ?_); (case hh => walk_at "side")) | ((with_reducible refine' i_iteDT ?hh ?_); (case hh => walk_at "side")) | ((with_reducible refine' i_iteND ?hh ?_); (case hh => walk_at "side")) | ((with_reducible refine' i_iteNT ?hh ?_); (case hh => walk_at "side")))
local macro_rules | `(tactic| walk_at "wr1") => `(tactic| first
  | walk_at "wp1"
  | with_reducible assumption
  | ((with_reducible refine if_id ?_); walk_at "ifs")
  | dsimp +instances only [isZ_i, isZ_b, isZ_n, isZ_s, isZ_l, isZ_t, isZ_o, isZ_e])
local macro_rules | `(tactic| walk_at "wr") => `(tactic| repeat walk_at "wr1")


/-! ### the texts of books, as plain lists -/
namespace Bk
/-- numbers behind spaces -/
def sp : List Int → Str
  | [] => Str.empty
  | n :: r => (" " : Str) ++ (Str.ofString (toString n)) ++ sp r
mutual
def lnS (ind : Str) : Sm → List Str
  | .set c r => [ind ++ ("set" : Str) ++ sp ((c : Int) :: r)]
  | .carry r => [ind ++ ("carry" : Str) ++ sp r]
  | .end_ b => [ind ++ ("end" : Str) ++ sp [(b : Int)]]
  | .keep cs b => (ind ++ ("keep" : Str) ++ sp cs) :: lnB (ind ++ ("  " : Str)) b
  | .again b => (ind ++ ("again" : Str)) :: lnB (ind ++ ("  " : Str)) b
  | .either a b => (ind ++ ("either" : Str)) :: (lnB (ind ++ ("  " : Str)) a ++ (ind ++ ("or" : Str)) :: lnB (ind ++ ("  " : Str)) b)
  | .call p r a b => (ind ++ ("call" : Str) ++ sp ((p : Int) :: r)) :: (ind ++ ("way 0" : Str)) :: (lnB (ind ++ ("  " : Str)) a ++ (ind ++ ("way 1" : Str)) :: lnB (ind ++ ("  " : Str)) b)
def lnB (ind : Str) : List Sm → List Str
  | [] => []
  | s :: b => lnS ind s ++ lnB ind b
end
def digs (ns : List Int) : Prop := ∀ n ∈ ns, -9 ≤ n ∧ n ≤ 9
theorem Row.digs {c : Nat} {r : List Int} (h : Row c r) : digs r := h.2
theorem Cells.digs {c : Nat} {r : List Int} (h : Cells c r) (hc : c ≤ 3) : Bk.digs r := fun x hx => by have := h.1 x hx; omega
theorem Cells.len {c : Nat} {cs : List Int} (h : Cells c cs) : cs.length ≤ c := by
  have key : ∀ (cs : List Int) (lo : Int), (∀ x ∈ cs, lo ≤ x ∧ x < (c : Int)) → cs.Pairwise (· < ·) → (cs.length : Int) ≤ max 0 ((c : Int) - lo) := by
    intro cs
    induction cs with
    | nil => intro lo _ _; simp; omega
    | cons x r ih =>
      intro lo h1 h2
      have hx := h1 x (List.mem_cons_self ..)
      have h3 := List.pairwise_cons.mp h2
      have := ih (x + 1) (fun y hy => ⟨h3.1 y hy, (h1 y (List.mem_cons_of_mem _ hy)).2⟩) h3.2
      rw [List.length_cons]
      omega
  have := key cs 0 (fun x hx => h.1 x hx) h.2
  omega
end Bk
namespace Bk
theorem Row.ne {c : Nat} {r : List Int} (h : Row c r) : r ≠ [] := fun z => by have := h.1; rw [z] at this; simp at this
end Bk

/-! ### books: the program's functions -/
abbrev s_is_integer : Stmt := topS 8
theorem sc_is_integer : FnScope ["value"] ["value"] (defScope s_is_integer) := ⟨rfl, rfl, rfl, by decide +kernel, rfl, by decide +kernel, by decide +kernel⟩

abbrev s_is_vector : Stmt := topS 11
theorem sc_is_vector : FnScope ["value", "width", "number"] ["value", "width"] (defScope s_is_vector) := ⟨rfl, rfl, rfl, by decide +kernel, rfl, by decide +kernel, by decide +kernel⟩

abbrev s_is_bit : Stmt := topS 9
theorem sc_is_bit : FnScope ["value"] ["value"] (defScope s_is_bit) := ⟨rfl, rfl, rfl, by decide +kernel, rfl, by decide +kernel, by decide +kernel⟩

abbrev s_is_index : Stmt := topS 10
theorem sc_is_index : FnScope ["value", "many"] ["value", "many"] (defScope s_is_index) := ⟨rfl, rfl, rfl, by decide +kernel, rfl, by decide +kernel, by decide +kernel⟩

abbrev s_is_row : Stmt := topS 12
theorem sc_is_row : FnScope ["value", "cells", "number"] ["value", "cells"] (defScope s_is_row) := ⟨rfl, rfl, rfl, by decide +kernel, rfl, by decide +kernel, by decide +kernel⟩

abbrev s_are_cells : Stmt := topS 13
theorem sc_are_cells : FnScope ["value", "cells", "at", "cell"] ["value", "cells"] (defScope s_are_cells) := ⟨rfl, rfl, rfl, by decide +kernel, rfl, by decide +kernel, by decide +kernel⟩

abbrev s_blocks_of : Stmt := topS 22
theorem sc_blocks_of : FnScope ["statement"] ["statement"] (defScope s_blocks_of) := ⟨rfl, rfl, rfl, by decide +kernel, rfl, by decide +kernel, by decide +kernel⟩

abbrev s_copied_statement : Stmt := topS 23
theorem sc_copied_statement : FnScope ["statement", "blocks", "block"] ["statement"] (defScope s_copied_statement) := ⟨rfl, rfl, rfl, by decide +kernel, rfl, by decide +kernel, by decide +kernel⟩

abbrev s_copied_block : Stmt := topS 24
theorem sc_copied_block : FnScope ["block", "statement"] ["block"] (defScope s_copied_block) := ⟨rfl, rfl, rfl, by decide +kernel, rfl, by decide +kernel, by decide +kernel⟩

abbrev s_is_word : Stmt := topS 25
theorem sc_is_word : FnScope ["value"] ["value"] (defScope s_is_word) := ⟨rfl, rfl, rfl, by decide +kernel, rfl, by decide +kernel, by decide +kernel⟩

abbrev s_is_command : Stmt := topS 26
theorem sc_is_command : FnScope ["value", "cells"] ["value", "cells"] (defScope s_is_command) := ⟨rfl, rfl, rfl, by decide +kernel, rfl, by decide +kernel, by decide +kernel⟩

abbrev s_has_form : Stmt := topS 27
theorem sc_has_form : FnScope ["value", "level", "cells", "many", "word", "block"] ["value", "level", "cells", "many"] (defScope s_has_form) := ⟨rfl, rfl, rfl, by decide +kernel, rfl, by decide +kernel, by decide +kernel⟩

abbrev s_first_fault : Stmt := topS 28
theorem sc_first_fault : FnScope ["block", "level", "form", "path", "met", "at", "statement", "here", "number", "inner", "fault"] ["block", "level", "form", "path", "met"] (defScope s_first_fault) := ⟨rfl, rfl, rfl, by decide +kernel, rfl, by decide +kernel, by decide +kernel⟩

open Bk
def spec_isint (K : PySem.W.Frag) : SpecD := .fn (fun d : D => [d]) (okC K) (fun d => .d (.bl (isZ d)))
def spec_isbit : SpecD := .fn (fun i : Int => [.int i]) (fun _ => True) (fun i => .d (.bl (decide (0 ≤ i ∧ i ≤ 1))))
def spec_isidx : SpecD := .fn (fun a : Int × Int => [.int a.1, .int a.2]) (fun _ => True) (fun a => .d (.bl (decide (0 ≤ a.1 ∧ a.1 < a.2))))
def spec_isvec : SpecD := .fn (fun a : List Int × Int => [.lst (intL a.1), .int a.2]) (fun a => a.1.length ≤ 100000) (fun a => .d (.bl (decide ((a.1.length : Int) = a.2))))
def spec_isrow : SpecD := .fn (fun a : List Int × Nat => [.lst (intL a.1), .int (a.2 : Nat)]) (fun a => Row a.2 a.1 ∧ a.2 ≤ 3) (fun _ => .d (.bl true))
def spec_iscells : SpecD := .fn (fun a : List Int × Nat => [.lst (intL a.1), .int (a.2 : Nat)]) (fun a => Cells a.2 a.1 ∧ a.2 ≤ 3) (fun _ => .d (.bl true))
def spec_blocks : SpecD := .fn (fun s : Sm => [stD s]) (fun _ => True) (fun s => .d (.lst (blsD (blocks s))))
def okS (c m k : Nat) (s : Sm) : Prop := wf c m k s ∧ c ≤ 3 ∧ m ≤ 3
def spec_cs (d : Nat) : SpecD := .fn (fun a : Sm × Nat × Nat × Nat => [stD a.1]) (fun a => dep a.1 ≤ d ∧ okS a.2.1 a.2.2.1 a.2.2.2 a.1) (fun a => .d (stD a.1))
def okB (c m k : Nat) (b : List Sm) : Prop := b.length ≤ 8 ∧ wfL c m k b ∧ c ≤ 3 ∧ m ≤ 3
def spec_cb (d : Nat) : SpecD := .fn (fun a : List Sm × Nat × Nat × Nat => [.lst (blD a.1)]) (fun a => depB a.1 < d ∧ okB a.2.1 a.2.2.1 a.2.2.2 a.1) (fun a => .f (blD a.1))
def spec_word : SpecD := .fn (fun s : Sm => [stD s]) (fun _ => True) (fun _ => .d (.bl true))
def isCom : Sm → Bool
  | .set _ _ => true
  | .carry _ => true
  | _ => false
def spec_com : SpecD := .fn (fun a : Sm × Nat × Nat × Nat => [stD a.1, .int (a.2.1 : Nat)]) (fun a => okS a.2.1 a.2.2.1 a.2.2.2 a.1) (fun a => .d (.bl (isCom a.1)))
def spec_form : SpecD := .fn (fun a : Sm × Nat × Nat × Nat => [stD a.1, .int (a.2.2.2 : Nat), .int (a.2.1 : Nat), .int (a.2.2.1 : Nat)]) (fun a => a.2.2.2 ≤ 3 ∧ okS a.2.1 a.2.2.1 (3 - a.2.2.2) a.1) (fun _ => .d (.bl true))
theorem blocks_len (s : Sm) : (blocks s).length ≤ 2 := by cases s <;> simp [blocks]
theorem allT_i {α : Type} (xs : List α) {R : D → Prop} (q : R (.bl true)) : allD [.lst (xs.map fun _ => .bl true)] R := by
  refine ⟨xs.map fun _ => true, by rw [List.map_map]; rfl, ?_⟩
  have e : (xs.map fun _ => true).all id = true := List.all_eq_true.mpr fun b hb => by
    obtain ⟨_, _, rfl⟩ := List.mem_map.mp hb
    rfl
  rw [e]
  exact q
section
variable {P : Program} {w : World} {K : PySem.W.Frag} {mg : Str → Option Value} {base : Heap}
theorem ok_is_integer (M : Blt mg) (hSeer : seerB K = true) (hTree : P.given.tree = none) (G_is_integer : Gf K mg "is_integer" s_is_integer ["value"]) : FnOk P w K mg base CX0 1 G_is_integer.f G_is_integer.fd ["value"] (spV K (spec_isint K)) := by
  refine fn_ok G_is_integer.F sc_is_integer (fun ds Q ⟨a, e, _⟩ => by rw [e]; rfl) fun cdv A outer s0 H E hr => ⟨_, _, (dss_one (ds_ret (de_and (de_isi K kit_I M.isinstance M.int (by decide +kernel) (de_var 0)) (de_one (de_not (de_isi K kit_B M.isinstance M.bool (by decide +kernel) (de_var 0))))))), ?_⟩
  rintro ds Q ⟨d, rfl, hd, q⟩
  dsimp only at hd q
  walk_at "wr"
  refine ⟨hd, ?_⟩
  walk_at "wr"
  refine i_iteB (fun h => ?_) (fun h => ?_)
  · walk_at "wr"
    refine ⟨hd, ?_⟩
    walk_at "wr"
    rw [isZ, h, Bool.true_and] at q
    exact q
  · walk_at "wr"
    rw [isZ, h, Bool.false_and] at q
    exact q
theorem ok_is_bit (M : Blt mg) (hSeer : seerB K = true) (hTree : P.given.tree = none) (G_is_integer : Gf K mg "is_integer" s_is_integer ["value"]) (G_is_bit : Gf K mg "is_bit" s_is_bit ["value"]) : FnOk P w K mg base CX0 2 G_is_bit.f G_is_bit.fd ["value"] (spV K spec_isbit) := by
  have H_is_integer := ok_is_integer (P := P) (w := w) (base := base) M hSeer hTree G_is_integer
  refine fn_ok G_is_bit.F sc_is_bit (fun ds Q ⟨a, e, _⟩ => by rw [e]; rfl) fun cdv A outer s0 H E hr => ⟨_, _, (dss_one (ds_ret (de_and (de_call K H_is_integer (hr.mono (by decide)) G_is_integer.g G_is_integer.F.kp G_is_integer.b (da_cons (de_var 0) da_nil)) (de_one (de_chain op_le ops_le op_le ops_le de_int (de_var 0) de_int))))), ?_⟩
  rintro ds Q ⟨i, rfl, _, q⟩
  walk_at "wr"
  refine ⟨_, rfl, trivial, ?_⟩
  walk_at "wr"
  dsimp only at q
  refine i_ite (fun h => ?_) (fun h => ?_)
  · walk_at "wr"
    rwa [show decide (0 ≤ i ∧ i ≤ 1) = decide (i ≤ 1) from decide_eq_decide.mpr ⟨fun z => z.2, fun z => ⟨h, z⟩⟩] at q
  · rwa [decide_eq_false (fun z => h z.1)] at q
theorem ok_is_index (M : Blt mg) (hSeer : seerB K = true) (hTree : P.given.tree = none) (G_is_integer : Gf K mg "is_integer" s_is_integer ["value"]) (G_is_index : Gf K mg "is_index" s_is_index ["value", "many"]) : FnOk P w K mg base CX0 2 G_is_index.f G_is_index.fd ["value", "many"] (spV K spec_isidx) := by
  have H_is_integer := ok_is_integer (P := P) (w := w) (base := base) M hSeer hTree G_is_integer
  refine fn_ok G_is_index.F sc_is_index (fun ds Q ⟨a, e, _⟩ => by rw [e]; rfl) fun cdv A outer s0 H E hr => ⟨_, _, (dss_one (ds_ret (de_and (de_call K H_is_integer (hr.mono (by decide)) G_is_integer.g G_is_integer.F.kp G_is_integer.b (da_cons (de_var 0) da_nil)) (de_one (de_chain op_le ops_le op_lt ops_lt de_int (de_var 0) (de_var 1)))))), ?_⟩
  rintro ds Q ⟨⟨i, m⟩, rfl, _, q⟩
  walk_at "wr"
  refine ⟨_, rfl, trivial, ?_⟩
  walk_at "wr"
  dsimp only at q
  refine i_ite (fun h => ?_) (fun h => ?_)
  · walk_at "wr"
    rwa [show decide (0 ≤ i ∧ i < m) = decide (i < m) from decide_eq_decide.mpr ⟨fun z => z.2, fun z => ⟨h, z⟩⟩] at q
  · rwa [decide_eq_false (fun z => h z.1)] at q
theorem ok_is_vector (M : Blt mg) (hSeer : seerB K = true) (hTree : P.given.tree = none) (G_is_integer : Gf K mg "is_integer" s_is_integer ["value"]) (G_is_vector : Gf K mg "is_vector" s_is_vector ["value", "width"]) : FnOk P w K mg base CX0 2 G_is_vector.f G_is_vector.fd ["value", "width"] (spV K spec_isvec) := by
  have H_is_integer := ok_is_integer (P := P) (w := w) (base := base) M hSeer hTree G_is_integer
  refine fn_ok G_is_vector.F sc_is_vector (fun ds Q ⟨a, e, _⟩ => by rw [e]; rfl) fun cdv A outer s0 H E hr => ⟨_, _, (dss_one (ds_ret (de_and (de_isi K kit_L M.isinstance M.list (by decide +kernel) (de_var 0)) (de_and (de_eq (de_callB cs_len call_len_seq M.len PySem.boot_len (da_cons (de_var 0) da_nil)) (de_var 1)) (de_one (de_callB cs_all (cr_all rfl) M.all (by decide +kernel) (da_cons (DF.v (df_lc (own := [("number", 2)]) rfl sc_is_vector.nd (di_list K (de_var 0)) (blkOk_by (by rfl)) (fun _ _ _ _ _ => (dg_name (i := 2) sc_is_vector.nd)) (gin_name (by decide)) gmo_name (fun _ _ _ _ _ => dts_nil) (fun _ _ _ _ _ => (de_call K H_is_integer (hr.mono (by decide)) G_is_integer.g G_is_integer.F.kp G_is_integer.b (da_cons (de_var 2) da_nil))))) da_nil))))))), ?_⟩
  rintro ds Q ⟨⟨r, n⟩, rfl, hz, q⟩
  dsimp only at hz q
  walk_at "wr"
  rw [List.length_map]
  by_cases h : (r.length : Int) = n
  · refine i_iteDT h ?_
    rw [decide_eq_true h] at q
    walk_at "wr"
    refine i_mapM (xs := r) D.int (fun _ => .bl true) rfl hz rfl (fun x hx R hR => ?_) ?_
    · walk_at "wr"
      refine ⟨_, rfl, trivial, ?_⟩
      exact hR _ rfl
    walk_at "wr"
    refine ⟨r.map fun _ => true, by rw [List.map_map]; rfl, ?_⟩
    have e : (r.map fun _ => true).all id = true := List.all_eq_true.mpr fun b hb => by
      obtain ⟨_, _, rfl⟩ := List.mem_map.mp hb
      rfl
    rw [e]
    exact q
  · refine i_iteDF h ?_
    rw [decide_eq_false h] at q
    exact q
theorem ok_is_row (M : Blt mg) (hSeer : seerB K = true) (hTree : P.given.tree = none) (G_is_integer : Gf K mg "is_integer" s_is_integer ["value"]) (G_is_vector : Gf K mg "is_vector" s_is_vector ["value", "width"]) (G_is_row : Gf K mg "is_row" s_is_row ["value", "cells"]) : FnOk P w K mg base CX0 3 G_is_row.f G_is_row.fd ["value", "cells"] (spV K spec_isrow) := by
  have H_is_vector := ok_is_vector (P := P) (w := w) (base := base) M hSeer hTree G_is_integer G_is_vector
  refine fn_ok G_is_row.F sc_is_row (fun ds Q ⟨a, e, _⟩ => by rw [e]; rfl) fun cdv A outer s0 H E hr => ⟨_, _, (dss_one (ds_ret (de_and (de_call K H_is_vector (hr.mono (by decide)) G_is_vector.g G_is_vector.F.kp G_is_vector.b (da_cons (de_var 0) (da_cons (de_add (de_var 1) de_int) da_nil))) (de_one (de_callB cs_all (cr_all rfl) M.all (by decide +kernel) (da_cons (DF.v (df_lc (own := [("number", 2)]) rfl sc_is_row.nd (di_list K (de_var 0)) (blkOk_by (by rfl)) (fun _ _ _ _ _ => (dg_name (i := 2) sc_is_row.nd)) (gin_name (by decide)) gmo_name (fun _ _ _ _ _ => dts_nil) (fun _ _ _ _ _ => (de_chain op_le ops_le op_le ops_le (de_neg de_int) (de_var 2) de_int)))) da_nil)))))), ?_⟩
  rintro ds Q ⟨⟨r, c⟩, rfl, ⟨hr1, hc⟩, q⟩
  dsimp only at hr1 hc q
  have hl := hr1.1
  walk_at "wr"
  refine ⟨(r, _), rfl, by show r.length ≤ 100000; omega, ?_⟩
  walk_at "wr"
  refine i_mapM (xs := r) D.int (fun _ => .bl true) rfl (by omega) rfl (fun x hx R hR => ?_) ?_
  · have := hr1.2 x hx
    walk_at "wr"
    rw [decide_eq_true (by omega : x ≤ 9)]
    exact hR _ rfl
  walk_at "wr"
  exact allT_i r q
theorem ok_are_cells (M : Blt mg) (hSeer : seerB K = true) (hTree : P.given.tree = none) (G_is_integer : Gf K mg "is_integer" s_is_integer ["value"]) (G_is_index : Gf K mg "is_index" s_is_index ["value", "many"]) (G_are_cells : Gf K mg "are_cells" s_are_cells ["value", "cells"]) : FnOk P w K mg base CX0 3 G_are_cells.f G_are_cells.fd ["value", "cells"] (spV K spec_iscells) := by
  have H_is_index := ok_is_index (P := P) (w := w) (base := base) M hSeer hTree G_is_integer G_is_index
  refine fn_ok G_are_cells.F sc_are_cells (fun ds Q ⟨a, e, _⟩ => by rw [e]; rfl) fun cdv A outer s0 H E hr => ⟨_, _, (dss_cons (ds_if (dt_not (dt_tr K (de_isi K kit_L M.isinstance M.list (by decide +kernel) (de_var 0)))) (dss_one (ds_ret de_bl)) dss_nil)
      (dss_cons (ds_for PassesOwn.never rfl (di_enum K M.enumerate (da_cons (de_var 0) da_nil)) (dg_tup K (n := 2) rfl (dgs_cons (dg_name (i := 2) sc_are_cells.nd) (dgs_cons (dg_name (i := 3) sc_are_cells.nd) dgs_nil))) (dss_one (ds_if (DW.dt (dw_or (dt_not (dt_tr K (de_call K H_is_index (hr.mono (by decide)) G_is_index.g G_is_index.F.kp G_is_index.b (da_cons (de_var 3) (da_cons (de_var 1) da_nil))))) (dw_or1 (DW.dt (dw_and (dt_gt (de_var 2) de_int) (dw_and1 (dt_le (de_var 3) (de_ix K (de_var 0) (de_sub (de_var 2) de_int))))))))) (dss_one (ds_ret de_bl)) dss_nil)))
      (dss_one (ds_ret de_bl)))), ?_⟩
  rintro ds Q ⟨⟨cs, c⟩, rfl, ⟨hc1, hc⟩, q⟩
  dsimp only at hc1 hc q
  have hl := hc1.len
  walk_at "wr"
  refine ⟨fun i γ => ∃ s2 s3, γ = [.val (.lst (intL cs)), .val (.int (c : Nat)), s2, s3], ⟨_, _, rfl⟩, ?_, ?_⟩
  · rintro i d γ hd ⟨s2, s3, rfl⟩
    obtain ⟨x, hx, rfl⟩ : ∃ x, cs[i]? = some x ∧ d = .tup [.int (i : Nat), .int x] := by
      have hi : i < cs.length := by
        have := (List.getElem?_eq_some_iff.mp hd).1
        rwa [enumD_len, List.length_map] at this
      refine ⟨cs[i], List.getElem?_eq_getElem hi, ?_⟩
      rw [enumD_get (d := .int cs[i]) (by rw [List.getElem?_map, List.getElem?_eq_getElem hi]; rfl)] at hd
      exact (Option.some.inj hd).symm
    have hxc := hc1.1 x (List.mem_of_getElem? hx)
    walk_at "wr"
    refine ⟨(x, (c : Int)), rfl, trivial, ?_⟩
    walk_at "wr"
    refine i_ite (fun h => ?_) (fun h => ?_)
    · walk_at "wr"
      obtain ⟨j, rfl⟩ : ∃ j, i = j + 1 := ⟨i - 1, by omega⟩
      have e : ((j + 1 : Nat) : Int) - 1 = (j : Int) := by omega
      rw [e]
      have hj : j < cs.length := by have := (List.getElem?_eq_some_iff.mp hx).1; omega
      refine i_ixL (d := .int cs[j]) (atI_of (by rw [List.getElem?_map, List.getElem?_eq_getElem hj]; rfl)) ?_
      walk_at "wr"
      have hlt : cs[j] < x := by
        obtain ⟨hj1, hx1⟩ := List.getElem?_eq_some_iff.mp hx
        have := List.pairwise_iff_getElem.mp hc1.2 j (j + 1) hj hj1 (by omega)
        rwa [hx1] at this
      refine i_iteDF (by omega) ?_
      walk_at "wr"
      exact ⟨_, _, rfl⟩
    · walk_at "wr"
      exact ⟨_, _, rfl⟩
  · rintro γ ⟨s2, s3, rfl⟩
    walk_at "wr"
theorem ok_blocks_of (M : Blt mg) (hSeer : seerB K = true) (hTree : P.given.tree = none) (G_blocks_of : Gf K mg "blocks_of" s_blocks_of ["statement"]) : FnOk P w K mg base CX0 1 G_blocks_of.f G_blocks_of.fd ["statement"] (spV K spec_blocks) := by
  refine fn_ok G_blocks_of.F sc_blocks_of (fun ds Q ⟨a, e, _⟩ => by rw [e]; rfl) fun cdv A outer s0 H E hr => ⟨_, _, (dss_one (ds_match (de_ix K (de_var 0) de_int) (dm_str pp_str (dss_one (ds_ret (DF.v (df_lst (da_cons (de_ix K (de_var 0) de_int) da_nil)))))
      (dm_str pp_str (dss_one (ds_ret (DF.v (df_lst (da_cons (de_ix K (de_var 0) de_int) da_nil)))))
      (dm_str pp_str (dss_one (ds_ret (DF.v (df_lst (da_cons (de_ix K (de_var 0) de_int) (da_cons (de_ix K (de_var 0) de_int) da_nil))))))
      (dm_str pp_str (dss_one (ds_ret (de_ix K (de_var 0) de_int)))
      (dm_any (dss_one (ds_ret (DF.v (df_lst da_nil))))))))))), ?_⟩
  rintro ds Q ⟨s, rfl, _, q⟩
  dsimp only at q
  cases s <;> (simp only [stD]; dsimp only [blocks, blsD] at q; walk_at "wr"; try exact q)
theorem ok_is_word (M : Blt mg) (hSeer : seerB K = true) (hTree : P.given.tree = none) (T_SIZES : Dc K w mg "SIZES" [("set", 3), ("carry", 2), ("keep", 3), ("either", 3), ("again", 2), ("call", 4), ("end", 2)] []) (G_is_word : Gf K mg "is_word" s_is_word ["value"]) : FnOk P w K mg base CX0 1 G_is_word.f G_is_word.fd ["value"] (spV K spec_word) := by
  refine fn_ok G_is_word.F sc_is_word (fun ds Q ⟨a, e, _⟩ => by rw [e]; rfl) fun cdv A outer s0 H E hr => ⟨_, _, (dss_cons (ds_if (DW.dt (dw_or (dt_not (dt_tr K (de_isi K kit_U M.isinstance M.tuple (by decide +kernel) (de_var 0)))) (dw_or (dt_lt (de_callB cs_len call_len_seq M.len PySem.boot_len (da_cons (de_var 0) da_nil)) de_int) (dw_or1 (dt_not (dt_tr K (de_isi K kit_S M.isinstance M.str (by decide +kernel) (de_ix K (de_var 0) de_int)))))))) (dss_one (ds_ret de_bl)) dss_nil)
      (dss_one (ds_ret (de_and (de_inKd K T_SIZES (de_ix K (de_var 0) de_int)) (de_one (de_eq (de_callB cs_len call_len_seq M.len PySem.boot_len (da_cons (de_var 0) da_nil)) (de_atKd K T_SIZES (de_ix K (de_var 0) de_int)))))))), ?_⟩
  rintro ds Q ⟨s, rfl, _, q⟩
  cases s <;> (simp only [stD]; walk_at "wr"; exact q)
theorem ok_is_command (M : Blt mg) (hSeer : seerB K = true) (hTree : P.given.tree = none) (G_is_integer : Gf K mg "is_integer" s_is_integer ["value"]) (G_is_vector : Gf K mg "is_vector" s_is_vector ["value", "width"]) (G_is_index : Gf K mg "is_index" s_is_index ["value", "many"]) (G_is_row : Gf K mg "is_row" s_is_row ["value", "cells"]) (T_SIZES : Dc K w mg "SIZES" [("set", 3), ("carry", 2), ("keep", 3), ("either", 3), ("again", 2), ("call", 4), ("end", 2)] []) (G_is_word : Gf K mg "is_word" s_is_word ["value"]) (G_is_command : Gf K mg "is_command" s_is_command ["value", "cells"]) : FnOk P w K mg base CX0 4 G_is_command.f G_is_command.fd ["value", "cells"] (spV K spec_com) := by
  have H_is_index := ok_is_index (P := P) (w := w) (base := base) M hSeer hTree G_is_integer G_is_index
  have H_is_row := ok_is_row (P := P) (w := w) (base := base) M hSeer hTree G_is_integer G_is_vector G_is_row
  have H_is_word := ok_is_word (P := P) (w := w) (base := base) M hSeer hTree T_SIZES G_is_word
  refine fn_ok G_is_command.F sc_is_command (fun ds Q ⟨a, e, _⟩ => by rw [e]; rfl) fun cdv A outer s0 H E hr => ⟨_, _, (dss_cons (ds_if (dt_not (dt_tr K (de_call K H_is_word (hr.mono (by decide)) G_is_word.g G_is_word.F.kp G_is_word.b (da_cons (de_var 0) da_nil)))) (dss_one (ds_ret de_bl)) dss_nil)
      (dss_cons (ds_if (dt_eq (de_ix K (de_var 0) de_int) de_str) (dss_one (ds_ret (de_and (de_call K H_is_index (hr.mono (by decide)) G_is_index.g G_is_index.F.kp G_is_index.b (da_cons (de_ix K (de_var 0) de_int) (da_cons (de_var 1) da_nil))) (de_one (de_call K H_is_row (hr.mono (by decide)) G_is_row.g G_is_row.F.kp G_is_row.b (da_cons (de_ix K (de_var 0) de_int) (da_cons (de_var 1) da_nil))))))) dss_nil)
      (dss_one (ds_ret (de_and (de_eq (de_ix K (de_var 0) de_int) de_str) (de_one (de_call K H_is_row (hr.mono (by decide)) G_is_row.g G_is_row.F.kp G_is_row.b (da_cons (de_ix K (de_var 0) de_int) (da_cons (de_var 1) da_nil))))))))), ?_⟩
  rintro ds Q ⟨⟨s, c, m, k⟩, rfl, ⟨hs, hc, hm⟩, q⟩
  dsimp only at hs hc hm q
  walk_at "wr"
  refine ⟨s, rfl, trivial, ?_⟩
  walk_at "wr"
  cases s with
  | set i r =>
    unfold wf at hs
    simp only [stD]
    walk_at "wr"
    refine ⟨((i : Int), (c : Int)), rfl, trivial, ?_⟩
    walk_at "wr"
    exact ⟨(r, c), rfl, ⟨hs.2, hc⟩, q⟩
  | carry r =>
    unfold wf at hs
    simp only [stD]
    walk_at "wr"
    exact ⟨(r, c), rfl, ⟨hs, hc⟩, q⟩
  | _ => simp only [stD]; walk_at "wr"; exact q
theorem ok_has_form (M : Blt mg) (hSeer : seerB K = true) (hTree : P.given.tree = none) (G_is_integer : Gf K mg "is_integer" s_is_integer ["value"]) (G_is_vector : Gf K mg "is_vector" s_is_vector ["value", "width"]) (G_is_bit : Gf K mg "is_bit" s_is_bit ["value"]) (G_is_index : Gf K mg "is_index" s_is_index ["value", "many"]) (G_is_row : Gf K mg "is_row" s_is_row ["value", "cells"]) (G_are_cells : Gf K mg "are_cells" s_are_cells ["value", "cells"]) (G_blocks_of : Gf K mg "blocks_of" s_blocks_of ["statement"]) (T_SIZES : Dc K w mg "SIZES" [("set", 3), ("carry", 2), ("keep", 3), ("either", 3), ("again", 2), ("call", 4), ("end", 2)] []) (G_is_word : Gf K mg "is_word" s_is_word ["value"]) (G_is_command : Gf K mg "is_command" s_is_command ["value", "cells"]) (hDEEPEST : ∃ t, mg "DEEPEST" = some (.int 3 t)) (G_has_form : Gf K mg "has_form" s_has_form ["value", "level", "cells", "many"]) : FnOk P w K mg base CX0 5 G_has_form.f G_has_form.fd ["value", "level", "cells", "many"] (spV K spec_form) := by
  have H_is_bit := ok_is_bit (P := P) (w := w) (base := base) M hSeer hTree G_is_integer G_is_bit
  have H_is_index := ok_is_index (P := P) (w := w) (base := base) M hSeer hTree G_is_integer G_is_index
  have H_is_row := ok_is_row (P := P) (w := w) (base := base) M hSeer hTree G_is_integer G_is_vector G_is_row
  have H_are_cells := ok_are_cells (P := P) (w := w) (base := base) M hSeer hTree G_is_integer G_is_index G_are_cells
  have H_blocks_of := ok_blocks_of (P := P) (w := w) (base := base) M hSeer hTree G_blocks_of
  have H_is_word := ok_is_word (P := P) (w := w) (base := base) M hSeer hTree T_SIZES G_is_word
  have H_is_command := ok_is_command (P := P) (w := w) (base := base) M hSeer hTree G_is_integer G_is_vector G_is_index G_is_row T_SIZES G_is_word G_is_command
  refine fn_ok G_has_form.F sc_has_form (fun ds Q ⟨a, e, _⟩ => by rw [e]; rfl) fun cdv A outer s0 H E hr => ⟨_, _, (dss_cons (ds_if (dt_tr K (de_call K H_is_command (hr.mono (by decide)) G_is_command.g G_is_command.F.kp G_is_command.b (da_cons (de_var 0) (da_cons (de_var 2) da_nil)))) (dss_one (ds_ret de_bl)) dss_nil)
      (dss_cons (ds_if (dt_not (dt_tr K (de_call K H_is_word (hr.mono (by decide)) G_is_word.g G_is_word.F.kp G_is_word.b (da_cons (de_var 0) da_nil)))) (dss_one (ds_ret de_bl)) dss_nil)
      (dss_cons (ds_set (i := 4) sc_has_form.nd (de_ix K (de_var 0) de_int))
      (dss_cons (ds_if (dt_eq (de_var 4) de_str) (dss_one (ds_ret (de_call K H_is_bit (hr.mono (by decide)) G_is_bit.g G_is_bit.F.kp G_is_bit.b (da_cons (de_ix K (de_var 0) de_int) da_nil)))) dss_nil)
      (dss_cons (ds_if (DW.dt (dw_or (dt_eq (de_var 1) (de_globI hDEEPEST)) (dw_or (dt_eq (de_var 4) de_str) (dw_or1 (dt_eq (de_var 4) de_str))))) (dss_one (ds_ret de_bl)) dss_nil)
      (dss_cons (ds_if (dt_eq (de_var 4) de_str) (dss_one (ds_ret (de_and (de_call K H_are_cells (hr.mono (by decide)) G_are_cells.g G_are_cells.F.kp G_are_cells.b (da_cons (de_ix K (de_var 0) de_int) (da_cons (de_var 2) da_nil))) (de_one (de_isi K kit_L M.isinstance M.list (by decide +kernel) (de_ix K (de_var 0) de_int)))))) dss_nil)
      (dss_cons (ds_if (dt_eq (de_var 4) de_str) (dss_cons (ds_if (DW.dt (dw_or (dt_not (dt_tr K (de_call K H_is_index (hr.mono (by decide)) G_is_index.g G_is_index.F.kp G_is_index.b (da_cons (de_ix K (de_var 0) de_int) (da_cons (de_var 3) da_nil))))) (dw_or1 (dt_not (dt_tr K (de_call K H_is_row (hr.mono (by decide)) G_is_row.g G_is_row.F.kp G_is_row.b (da_cons (de_ix K (de_var 0) de_int) (da_cons (de_var 2) da_nil)))))))) (dss_one (ds_ret de_bl)) dss_nil)
      (dss_one (ds_if (DW.dt (dw_or (dt_not (dt_tr K (de_isi K kit_L M.isinstance M.list (by decide +kernel) (de_ix K (de_var 0) de_int)))) (dw_or1 (dt_ne (de_callB cs_len call_len_seq M.len PySem.boot_len (da_cons (de_ix K (de_var 0) de_int) da_nil)) de_int)))) (dss_one (ds_ret de_bl)) dss_nil))) dss_nil)
      (dss_one (ds_ret (de_callB cs_all (cr_all rfl) M.all (by decide +kernel) (da_cons (DF.v (df_lc (own := [("block", 5)]) rfl sc_has_form.nd (di_list K (de_call K H_blocks_of (hr.mono (by decide)) G_blocks_of.g G_blocks_of.F.kp G_blocks_of.b (da_cons (de_var 0) da_nil))) (blkOk_by (by rfl)) (fun _ _ _ _ _ => (dg_name (i := 5) sc_has_form.nd)) (gin_name (by decide)) gmo_name (fun _ _ _ _ _ => dts_nil) (fun _ _ _ _ _ => (de_isi K kit_L M.isinstance M.list (by decide +kernel) (de_var 5))))) da_nil))))))))))), ?_⟩
  rintro ds Q ⟨⟨s, c, m, l⟩, rfl, ⟨hl, hs, hc, hm⟩, q⟩
  dsimp only at hs hc hm hl q
  walk_at "wr"
  refine ⟨(s, c, m, 3 - l), rfl, ⟨hs, hc, hm⟩, ?_⟩
  walk_at "wr"
  cases s with
  | set i r => dsimp +instances only [isCom, stD]; walk_at "wr"
  | carry r => dsimp +instances only [isCom, stD]; walk_at "wr"
  | end_ b =>
    unfold wf at hs
    dsimp +instances only [isCom, stD]
    walk_at "wr"
    refine ⟨.end_ b, rfl, trivial, ?_⟩
    walk_at "wr"
    refine ⟨(b : Int), rfl, trivial, ?_⟩
    show Q (Rv.d (D.bl (decide (0 ≤ (b : Int) ∧ (b : Int) ≤ 1))))
    rw [decide_eq_true (by omega : 0 ≤ (b : Int) ∧ (b : Int) ≤ 1)]
    exact q
  | keep cs b =>
    unfold wf at hs
    have hk : l ≠ 3 := by omega
    dsimp +instances only [isCom, stD]
    walk_at "wr"
    refine ⟨.keep cs b, rfl, trivial, ?_⟩
    walk_at "wr"
    refine ⟨(cs, c), rfl, ⟨hs.2.1, hc⟩, ?_⟩
    walk_at "wr"
  | again b =>
    unfold wf at hs
    have hk : l ≠ 3 := by omega
    dsimp +instances only [isCom, stD]
    walk_at "wr"
    refine ⟨.again b, rfl, trivial, ?_⟩
    walk_at "wr"
    refine ⟨.again b, rfl, trivial, ?_⟩
    walk_at "wr"
    refine i_mapM (xs := blocks (.again b)) (fun b => .lst (blD b)) (fun _ => .bl true) rfl (by have := blocks_len (.again b); omega) rfl (fun x hx R hR => ?_) ?_
    · walk_at "wr"
      exact hR _ rfl
    walk_at "wr"
    exact allT_i (blocks (.again b)) q
  | either a b =>
    unfold wf at hs
    have hk : l ≠ 3 := by omega
    dsimp +instances only [isCom, stD]
    walk_at "wr"
    refine ⟨.either a b, rfl, trivial, ?_⟩
    walk_at "wr"
    refine ⟨.either a b, rfl, trivial, ?_⟩
    walk_at "wr"
    refine i_mapM (xs := blocks (.either a b)) (fun b => .lst (blD b)) (fun _ => .bl true) rfl (by have := blocks_len (.either a b); omega) rfl (fun x hx R hR => ?_) ?_
    · walk_at "wr"
      exact hR _ rfl
    walk_at "wr"
    exact allT_i (blocks (.either a b)) q
  | call p r a b =>
    unfold wf at hs
    have hk : l ≠ 3 := by omega
    dsimp +instances only [isCom, stD]
    walk_at "wr"
    refine ⟨.call p r a b, rfl, trivial, ?_⟩
    walk_at "wr"
    refine ⟨((p : Int), (m : Int)), rfl, trivial, ?_⟩
    walk_at "wr"
    refine ⟨(r, c), rfl, ⟨hs.2.1.2, hc⟩, ?_⟩
    walk_at "wr"
    refine ⟨.call p r a b, rfl, trivial, ?_⟩
    walk_at "wr"
    refine i_mapM (xs := blocks (.call p r a b)) (fun b => .lst (blD b)) (fun _ => .bl true) rfl (by have := blocks_len (.call p r a b); omega) rfl (fun x hx R hR => ?_) ?_
    · walk_at "wr"
      exact hR _ rfl
    walk_at "wr"
    exact allT_i (blocks (.call p r a b)) q
end

/-! ### copies, faults -/
open Bk
theorem blsD_len (bs : List (List Sm)) : (blsD bs).length = bs.length := List.length_map ..
def spec_ff (d : Nat) : SpecD := .fn (fun a : List Sm × Nat × Nat × Nat × List D × Nat => [.lst (blD a.1), .int (a.2.2.2.1 : Nat), .tup [.int (a.2.1 : Nat), .int (a.2.2.1 : Nat)], .tup a.2.2.2.2.1, .int (a.2.2.2.2.2 : Nat)])
  (fun a => depB a.1 < d ∧ a.2.2.2.1 ≤ 3 ∧ okB a.2.1 a.2.2.1 (3 - a.2.2.2.1) a.1 ∧ a.2.2.2.2.1.length + 2 * d ≤ 1000 ∧ a.2.2.2.2.2 + cntB a.1 ≤ 12)
  (fun a => .d (.tup [.non, .int ((a.2.2.2.2.2 + cntB a.1 : Nat) : Int)]))
section
variable {P : Program} {w : World} {K : PySem.W.Frag} {mg : Str → Option Value} {base : Heap}
theorem ok_copied (M : Blt mg) (hSeer : seerB K = true) (hTree : P.given.tree = none) (G_blocks_of : Gf K mg "blocks_of" s_blocks_of ["statement"]) (G_copied_statement : Gf K mg "copied_statement" s_copied_statement ["statement"]) (G_copied_block : Gf K mg "copied_block" s_copied_block ["block"]) : ∀ d, FnOk P w K mg base CX0 (2 * d + 1) G_copied_block.f G_copied_block.fd ["block"] (spV K (spec_cb d)) ∧ FnOk P w K mg base CX0 (2 * d + 1 + 1) G_copied_statement.f G_copied_statement.fd ["statement"] (spV K (spec_cs d)) := by
  have H_blocks_of := ok_blocks_of (P := P) (w := w) (base := base) M hSeer hTree G_blocks_of
  have cs : ∀ d, FnOk P w K mg base CX0 (2 * d + 1) G_copied_block.f G_copied_block.fd ["block"] (spV K (spec_cb d)) → FnOk P w K mg base CX0 (2 * d + 1 + 1) G_copied_statement.f G_copied_statement.fd ["statement"] (spV K (spec_cs d)) := by
    intro d H_copied_block
    refine fn_ok G_copied_statement.F sc_copied_statement (fun ds Q ⟨a, e, _⟩ => by rw [e]; rfl) fun cdv A outer s0 H E hr => ⟨_, _, (dss_cons (ds_setLc (i := 1) (own := [("block", 2)]) rfl sc_copied_statement.nd (di_list K (de_call K H_blocks_of (hr.mono (by omega)) G_blocks_of.g G_blocks_of.F.kp G_blocks_of.b (da_cons (de_var 0) da_nil))) (blkOk_by (by rfl)) (fun _ _ _ _ _ => (dg_name (i := 2) sc_copied_statement.nd)) (gin_name (by decide)) gmo_name (fun _ _ _ _ _ => dts_nil) (fun _ _ _ _ _ => (DF.v (df_call K H_copied_block (hr.mono (by omega)) G_copied_block.g G_copied_block.F.kp G_copied_block.b (da_cons (de_var 2) da_nil)))))
      (dss_frz 1 (dss_one (ds_match (de_ix K (de_var 0) de_int) (dm_str pp_str (dss_one (ds_ret (de_tup (da_cons de_str (da_cons (de_ix K (de_var 0) de_int) (da_cons (DF.v (df_list K M.list (de_ix K (de_var 0) de_int))) da_nil))))))
      (dm_str pp_str (dss_one (ds_ret (de_tup (da_cons de_str (da_cons (DF.v (df_list K M.list (de_ix K (de_var 0) de_int))) da_nil)))))
      (dm_str pp_str (dss_one (ds_ret (de_tup (da_cons de_str (da_cons (DF.v (df_list K M.list (de_ix K (de_var 0) de_int))) (da_cons (de_ix K (de_var 1) de_int) da_nil))))))
      (dm_str (pp_or (pps_cons pp_str (pps_cons pp_str pps_nil))) (dss_one (ds_ret (de_tup (da_cons (de_ix K (de_var 0) de_int) (da_star K (de_var 1) da_nil)))))
      (dm_str pp_str (dss_one (ds_ret (de_tup (da_cons de_str (da_cons (de_ix K (de_var 0) de_int) (da_cons (DF.v (df_list K M.list (de_ix K (de_var 0) de_int))) (da_cons (de_var 1) da_nil)))))))
      (dm_any (dss_one (ds_ret (de_tup (da_cons de_str (da_cons (de_ix K (de_var 0) de_int) da_nil))))))))))))))), ?_⟩
    rintro ds Q ⟨⟨s, c, m, k⟩, rfl, ⟨hd, hs, hc, hm⟩, q⟩
    dsimp only at hd hs hc hm q
    walk_at "wr"
    refine ⟨s, rfl, trivial, ?_⟩
    walk_at "wr"
    refine i_mapM (xs := blocks s) (fun b => .lst (blD b)) (fun b => .lst (blD b)) rfl (by have := blocks_len s; omega) rfl (fun b hb R hR => ?_) ?_
    · have h1 := dep_blocks hb
      have h2 := wf_blocks hs hb
      walk_at "wr"
      refine ⟨(b, c, m, k - 1), rfl, ⟨by show depB b < d; omega, h2.2.1, h2.2.2, hc, hm⟩, ?_⟩
      walk_at "wr"
      exact hR _ rfl
    walk_at "wr"
    cases s <;> simp only [stD, blocks, blsD, List.map_cons, List.map_nil] <;> simp only [stD] at q <;> walk_at "wr"
    all_goals exact q
  intro d
  induction d with
  | zero =>
    have h0 : FnOk P w K mg base CX0 (2 * 0 + 1) G_copied_block.f G_copied_block.fd ["block"] (spV K (spec_cb 0)) := (fn_none fun ds Q (h : (spec_cb 0).S ds Q) => let ⟨_, _, h, _⟩ := h; Nat.not_lt_zero _ h.1).mono (Nat.zero_le _)
    exact ⟨h0, cs 0 h0⟩
  | succ d ih =>
    have H_copied_statement := ih.2
    have h1 : FnOk P w K mg base CX0 (2 * (d + 1) + 1) G_copied_block.f G_copied_block.fd ["block"] (spV K (spec_cb (d + 1))) := by
      refine fn_ok G_copied_block.F sc_copied_block (fun ds Q ⟨a, e, _⟩ => by rw [e]; rfl) fun cdv A outer s0 H E hr => ⟨_, _, (dss_one (ds_retF (df_lc (own := [("statement", 1)]) rfl sc_copied_block.nd (di_list K (de_var 0)) (blkOk_by (by rfl)) (fun _ _ _ _ _ => (dg_name (i := 1) sc_copied_block.nd)) (gin_name (by decide)) gmo_name (fun _ _ _ _ _ => dts_nil) (fun _ _ _ _ _ => (de_call K H_copied_statement (hr.mono (by omega)) G_copied_statement.g G_copied_statement.F.kp G_copied_statement.b (da_cons (de_var 1) da_nil)))))), ?_⟩
      rintro ds Q ⟨⟨b, c, m, k⟩, rfl, ⟨hd, hb, hw, hc, hm⟩, q⟩
      dsimp only at hd hb hw hc hm q
      walk_at "wr"
      refine i_mapM (xs := b) stD stD (blD_map b) (by omega) rfl (fun s hs R hR => ?_) ?_
      · have h1 := dep_mem hs
        walk_at "wr"
        refine ⟨(s, c, m, k), rfl, ⟨by show dep s ≤ d; omega, wfL_mem hw hs, hc, hm⟩, ?_⟩
        exact hR _ rfl
      walk_at "wr"
      rw [← blD_map]
      exact q
    exact ⟨h1, cs (d + 1) h1⟩
theorem ok_first_fault (M : Blt mg) (hSeer : seerB K = true) (hTree : P.given.tree = none) (G_is_integer : Gf K mg "is_integer" s_is_integer ["value"]) (G_is_vector : Gf K mg "is_vector" s_is_vector ["value", "width"]) (G_is_bit : Gf K mg "is_bit" s_is_bit ["value"]) (G_is_index : Gf K mg "is_index" s_is_index ["value", "many"]) (G_is_row : Gf K mg "is_row" s_is_row ["value", "cells"]) (G_are_cells : Gf K mg "are_cells" s_are_cells ["value", "cells"]) (G_blocks_of : Gf K mg "blocks_of" s_blocks_of ["statement"]) (T_SIZES : Dc K w mg "SIZES" [("set", 3), ("carry", 2), ("keep", 3), ("either", 3), ("again", 2), ("call", 4), ("end", 2)] []) (G_is_word : Gf K mg "is_word" s_is_word ["value"]) (G_is_command : Gf K mg "is_command" s_is_command ["value", "cells"]) (hDEEPEST : ∃ t, mg "DEEPEST" = some (.int 3 t)) (G_has_form : Gf K mg "has_form" s_has_form ["value", "level", "cells", "many"]) (hMOST_IN_LIST : ∃ t, mg "MOST_IN_LIST" = some (.int 8 t)) (hMOST_IN_PROCEDURE : ∃ t, mg "MOST_IN_PROCEDURE" = some (.int 12 t)) (G_first_fault : Gf K mg "first_fault" s_first_fault ["block", "level", "form", "path", "met"]) : ∀ d, FnOk P w K mg base CX0 (d + 6) G_first_fault.f G_first_fault.fd ["block", "level", "form", "path", "met"] (spV K (spec_ff d)) := by
  have H_blocks_of := ok_blocks_of (P := P) (w := w) (base := base) M hSeer hTree G_blocks_of
  have H_has_form := ok_has_form (P := P) (w := w) (base := base) M hSeer hTree G_is_integer G_is_vector G_is_bit G_is_index G_is_row G_are_cells G_blocks_of T_SIZES G_is_word G_is_command hDEEPEST G_has_form
  intro d
  induction d with
  | zero => exact (fn_none fun ds Q (h : (spec_ff 0).S ds Q) => let ⟨_, _, h, _⟩ := h; Nat.not_lt_zero _ h.1).mono (Nat.zero_le _)
  | succ d IH =>
    show FnOk P w K mg base CX0 (d + 6 + 1) G_first_fault.f G_first_fault.fd ["block", "level", "form", "path", "met"] (spV K (spec_ff (d + 1)))
    refine fn_ok G_first_fault.F sc_first_fault (fun ds Q ⟨a, e, _⟩ => by rw [e]; rfl) fun cdv A outer s0 H E hr => ⟨_, _, (dss_cons (ds_for PassesOwn.never rfl (di_enum K M.enumerate (da_cons (de_var 0) da_nil)) (dg_tup K (n := 2) rfl (dgs_cons (dg_name (i := 5) sc_first_fault.nd) (dgs_cons (dg_name (i := 6) sc_first_fault.nd) dgs_nil))) (dss_cons (ds_set (i := 7) sc_first_fault.nd (de_catT K (de_var 3) (de_tup (da_cons (de_var 5) da_nil))))
      (dss_cons (ds_if (DW.dt (dw_or (dt_eq (de_var 5) (de_globI hMOST_IN_LIST)) (dw_or (dt_eq (de_var 4) (de_globI hMOST_IN_PROCEDURE)) (dw_or1 (dt_not (dt_tr K (de_callSt K H_has_form (hr.mono (by omega)) G_has_form.g G_has_form.F.kp G_has_form.b (da_cons (de_var 6) (da_cons (de_var 1) (da_star K (de_var 2) da_nil)))))))))) (dss_one (ds_ret (de_tup (da_cons (de_var 7) (da_cons (de_var 4) da_nil))))) dss_nil)
      (dss_cons (ds_aug (i := 4) sc_first_fault.nd ip_add de_int)
      (dss_one (ds_for PassesOwn.never rfl (di_enum K M.enumerate (da_cons (de_call K H_blocks_of (hr.mono (by omega)) G_blocks_of.g G_blocks_of.F.kp G_blocks_of.b (da_cons (de_var 6) da_nil)) da_nil)) (dg_tup K (n := 2) rfl (dgs_cons (dg_name (i := 8) sc_first_fault.nd) (dgs_cons (dg_name (i := 9) sc_first_fault.nd) dgs_nil))) (dss_cons (ds_asg (de_call K IH hr G_first_fault.g G_first_fault.F.kp G_first_fault.b (da_cons (de_var 9) (da_cons (de_add (de_var 1) de_int) (da_cons (de_var 2) (da_cons (de_catT K (de_var 7) (de_tup (da_cons (de_var 8) da_nil))) (da_cons (de_var 4) da_nil)))))) (dg_tup K (n := 2) rfl (dgs_cons (dg_name (i := 10) sc_first_fault.nd) (dgs_cons (dg_name (i := 4) sc_first_fault.nd) dgs_nil))))
      (dss_one (ds_if (dt_notN (de_var 10)) (dss_one (ds_ret (de_tup (da_cons (de_var 10) (da_cons (de_var 4) da_nil))))) dss_nil)))))))))
      (dss_one (ds_ret (de_tup (da_cons de_non (da_cons (de_var 4) da_nil)))))), ?_⟩
    rintro ds Q ⟨⟨b, c, m, l, pa, met⟩, rfl, ⟨hd, hl, ⟨hb, hw, hc, hm⟩, hp, hmet⟩, q⟩
    dsimp only at hd hl hb hw hc hm hp hmet q
    walk_at "wr"
    refine i_forE (xs := b) stD (fun pre γ => ∃ s5 s6 s7 s8 s9 s10, γ = [.val (.lst (blD b)), .val (.int (l : Nat)), .val (.tup [.int (c : Nat), .int (m : Nat)]), .val (.tup pa), .val (.int ((met + cntB pre : Nat) : Int)), s5, s6, s7, s8, s9, s10]) (blD_map b) ⟨_, _, _, _, _, _, rfl⟩ ?_ ?_
    · rintro pre s post γ eb ⟨s5, s6, s7, s8, s9, s10, rfl⟩
      have hs : s ∈ b := by rw [eb]; exact List.mem_append_right _ (List.mem_cons_self ..)
      have hsw := wfL_mem hw hs
      have hpl : pre.length < 8 := by have := congrArg List.length eb; rw [List.length_append, List.length_cons] at this; omega
      have hcnt : cntB b = cntB pre + cnt s + cntB post := by rw [eb, cntB_append]; show _ + (cnt s + cntB post) = _; omega
      have hcs := cnt_blocks s
      have hdep := dep_mem hs
      walk_at "wr"
      refine ⟨(s, c, m, l), rfl, ⟨hl, hsw, hc, hm⟩, ?_⟩
      walk_at "wr"
      refine ⟨s, rfl, trivial, ?_⟩
      walk_at "wr"
      rw [show ((met + cntB pre : Nat) : Int) + 1 = ((met + cntB pre + 1 + (([] : List (List Sm)).map cntB).sum : Nat) : Int) from rfl]
      refine i_forE (xs := blocks s) (fun b => .lst (blD b)) (fun dn γ => ∃ s8 s9 s10, γ = [.val (.lst (blD b)), .val (.int (l : Nat)), .val (.tup [.int (c : Nat), .int (m : Nat)]), .val (.tup pa), .val (.int ((met + cntB pre + 1 + (dn.map cntB).sum : Nat) : Int)), .val (.int (pre.length : Nat)), .val (stD s), .val (.tup (pa ++ [.int (pre.length : Nat)])), s8, s9, s10]) rfl ⟨_, _, _, rfl⟩ ?_ ?_
      · rintro dn x ps γ ex ⟨s8, s9, s10, rfl⟩
        have hx : x ∈ blocks s := by rw [ex]; exact List.mem_append_right _ (List.mem_cons_self ..)
        have h1 := dep_blocks hx
        have h2 := wf_blocks hsw hx
        have hsum : ((blocks s).map cntB).sum = (dn.map cntB).sum + cntB x + (ps.map cntB).sum := by
          rw [ex, List.map_append, List.sum_append, List.map_cons, List.sum_cons]; omega
        walk_at "wr"
        rw [show (l : Int) + 1 = ((l + 1 : Nat) : Int) from rfl]
        refine ⟨(x, c, m, l + 1, _, _), rfl, ⟨by show depB x < d; omega, by show l + 1 ≤ 3; omega, ⟨h2.2.1, ?_, hc, hm⟩, ?_, ?_⟩, ?_⟩
        · have e : 3 - l - 1 = 3 - (l + 1) := by omega
          have h3 := h2.2.2
          rw [e] at h3
          exact h3
        · show ((pa ++ [_]) ++ [_]).length + 2 * d ≤ 1000
          rw [List.length_append, List.length_append]
          show pa.length + 1 + 1 + 2 * d ≤ 1000
          omega
        · show met + cntB pre + 1 + (dn.map cntB).sum + cntB x ≤ 12
          omega
        dsimp only
        walk_at "wr"
        have es : met + cntB pre + 1 + (dn.map cntB).sum + cntB x = met + cntB pre + 1 + ((dn ++ [x]).map cntB).sum := by
          rw [List.map_append, List.sum_append]
          show _ = met + cntB pre + 1 + ((dn.map cntB).sum + (cntB x + 0))
          omega
        rw [es]
        exact ⟨_, _, _, rfl⟩
      · rintro γ ⟨s8, s9, s10, rfl⟩
        have es : met + cntB pre + 1 + ((blocks s).map cntB).sum = met + cntB (pre ++ [s]) := by
          rw [cntB_append, show cntB [s] = Bk.cnt s + 0 from rfl, hcs]
          omega
        rw [es]
        exact ⟨_, _, _, _, _, _, rfl⟩
    · rintro γ ⟨s5, s6, s7, s8, s9, s10, rfl⟩
      walk_at "wr"
end

/-! ### the class Book -/
abbrev s_Book_init : Stmt := methS 30 0
theorem sc_Book_init : FnScope ["self", "cells", "bodies", "procedure", "body", "fault", "met"] ["self", "cells", "bodies"] (defScope s_Book_init) := ⟨rfl, rfl, rfl, by decide +kernel, rfl, by decide +kernel, by decide +kernel⟩

abbrev s_Book_len : Stmt := methS 30 1
theorem sc_Book_len : FnScope ["self"] ["self"] (defScope s_Book_len) := ⟨rfl, rfl, rfl, by decide +kernel, rfl, by decide +kernel, by decide +kernel⟩

abbrev s_Book_cells : Stmt := methS 30 5
theorem sc_Book_cells : FnScope ["self"] ["self"] (defScope s_Book_cells) := ⟨rfl, rfl, rfl, by decide +kernel, rfl, by decide +kernel, by decide +kernel⟩

abbrev s_Book_bodies : Stmt := methS 30 6
theorem sc_Book_bodies : FnScope ["self", "body"] ["self"] (defScope s_Book_bodies) := ⟨rfl, rfl, rfl, by decide +kernel, rfl, by decide +kernel, by decide +kernel⟩

open Bk
abbrev bookF (c : Nat) (bs : List (List Sm)) : List (Str × D) := [("many", .int (c : Nat)), ("own", .lst (blsD bs)), ("run_memo", .non), ("deed_memo", .non)]
abbrev bookD (C : Addr) (c : Nat) (bs : List (List Sm)) : D := .obj C (bookF c bs)
def okBk (c m : Nat) (bs : List (List Sm)) : Prop := 1 ≤ c ∧ c ≤ 3 ∧ 1 ≤ m ∧ m ≤ 3 ∧ Bodies c m bs
def spec_book : SpecI := ⟨fun ds Q => ∃ (c m : Nat) (bs : List (List Sm)), ds = [.int (c : Nat), .lst (blsD bs)] ∧ okBk c m bs ∧ Q (bookF c bs), fun ds P P' k ⟨c, m, bs, e, h, q⟩ => ⟨c, m, bs, e, h, k _ q⟩⟩
def spec_blen (C : Addr) : SpecD := .fn (fun a : Nat × Nat × List (List Sm) => [bookD C a.1 a.2.2]) (fun a => okBk a.1 a.2.1 a.2.2) (fun a => .d (.int (a.2.1 : Nat)))
def spec_bcells (C : Addr) : SpecD := .fn (fun a : Nat × List (List Sm) => [bookD C a.1 a.2]) (fun _ => True) (fun a => .d (.int (a.1 : Nat)))
def spec_bbodies (C : Addr) : SpecD := .fn (fun a : Nat × Nat × List (List Sm) => [bookD C a.1 a.2.2]) (fun a => okBk a.1 a.2.1 a.2.2) (fun a => .f (blsD a.2.2))
section
variable {P : Program} {w : World} {K : PySem.W.Frag} {mg : Str → Option Value} {base : Heap}
theorem ok_Book_init (M : Blt mg) (hSeer : seerB K = true) (hTree : P.given.tree = none) (G_is_integer : Gf K mg "is_integer" s_is_integer ["value"]) (G_is_vector : Gf K mg "is_vector" s_is_vector ["value", "width"]) (G_is_bit : Gf K mg "is_bit" s_is_bit ["value"]) (G_is_index : Gf K mg "is_index" s_is_index ["value", "many"]) (G_is_row : Gf K mg "is_row" s_is_row ["value", "cells"]) (G_are_cells : Gf K mg "are_cells" s_are_cells ["value", "cells"]) (G_blocks_of : Gf K mg "blocks_of" s_blocks_of ["statement"]) (G_copied_statement : Gf K mg "copied_statement" s_copied_statement ["statement"]) (G_copied_block : Gf K mg "copied_block" s_copied_block ["block"]) (T_SIZES : Dc K w mg "SIZES" [("set", 3), ("carry", 2), ("keep", 3), ("either", 3), ("again", 2), ("call", 4), ("end", 2)] []) (G_is_word : Gf K mg "is_word" s_is_word ["value"]) (G_is_command : Gf K mg "is_command" s_is_command ["value", "cells"]) (hDEEPEST : ∃ t, mg "DEEPEST" = some (.int 3 t)) (G_has_form : Gf K mg "has_form" s_has_form ["value", "level", "cells", "many"]) (hMOST_IN_LIST : ∃ t, mg "MOST_IN_LIST" = some (.int 8 t)) (hMOST_IN_PROCEDURE : ∃ t, mg "MOST_IN_PROCEDURE" = some (.int 12 t)) (G_first_fault : Gf K mg "first_fault" s_first_fault ["block", "level", "form", "path", "met"]) (hMOST_CELLS : ∃ t, mg "MOST_CELLS" = some (.int 3 t)) (hMOST_PROCEDURES : ∃ t, mg "MOST_PROCEDURES" = some (.int 3 t)) (T_Book : Tc K mg "Book" ["many", "own", "run_memo", "deed_memo"]) (G_Book_init : Gm K T_Book.C "__init__" "Book.__init__" s_Book_init ["self", "cells", "bodies"]) : FnOk P w K mg base CX0 11 G_Book_init.f G_Book_init.fd ["self", "cells", "bodies"] (spI K T_Book.C spec_book) := by
  have H_is_integer := ok_is_integer (P := P) (w := w) (base := base) M hSeer hTree G_is_integer
  have H_copied_block := (ok_copied (P := P) (w := w) (base := base) M hSeer hTree G_blocks_of G_copied_statement G_copied_block 4).1
  have H_first_fault := ok_first_fault (P := P) (w := w) (base := base) M hSeer hTree G_is_integer G_is_vector G_is_bit G_is_index G_is_row G_are_cells G_blocks_of T_SIZES G_is_word G_is_command hDEEPEST G_has_form hMOST_IN_LIST hMOST_IN_PROCEDURE G_first_fault 4
  refine fn_okI G_Book_init.F sc_Book_init (fun ds Q ⟨a, _, _, e, _⟩ => by rw [e]; rfl) fun cdv A outer s0 H E hr => ⟨_, _, (dss_cons (ds_if (DW.dt (dw_or (dt_not (dt_tr K (de_call K H_is_integer (hr.mono (by decide)) G_is_integer.g G_is_integer.F.kp G_is_integer.b (da_cons (de_var 1) da_nil)))) (dw_or1 (dt_not (dt_chain op_le ops_le op_le ops_le de_int (de_var 1) (de_globI hMOST_CELLS)))))) (dss_one ds_no) dss_nil)
      (dss_cons (ds_if (DW.dt (dw_or (dt_not (dt_tr K (de_isi K kit_L M.isinstance M.list (by decide +kernel) (de_var 2)))) (dw_or1 (dt_not (dt_chain op_le ops_le op_le ops_le de_int (de_callB cs_len call_len_seq M.len PySem.boot_len (da_cons (de_var 2) da_nil)) (de_globI hMOST_PROCEDURES)))))) (dss_one ds_no) dss_nil)
      (dss_cons (ds_for PassesOwn.never rfl (di_enum K M.enumerate (da_cons (de_var 2) da_nil)) (dg_tup K (n := 2) rfl (dgs_cons (dg_name (i := 3) sc_Book_init.nd) (dgs_cons (dg_name (i := 4) sc_Book_init.nd) dgs_nil))) (dss_cons (ds_if (dt_not (dt_tr K (de_isi K kit_L M.isinstance M.list (by decide +kernel) (de_var 4)))) (dss_one ds_no) dss_nil)
      (dss_cons (ds_asg (de_call K H_first_fault (hr.mono (by decide)) G_first_fault.g G_first_fault.F.kp G_first_fault.b (da_cons (de_var 4) (da_cons de_int (da_cons (de_tup (da_cons (de_var 1) (da_cons (de_callB cs_len call_len_seq M.len PySem.boot_len (da_cons (de_var 2) da_nil)) da_nil))) (da_cons (de_tup da_nil) (da_cons de_int da_nil)))))) (dg_tup K (n := 2) rfl (dgs_cons (dg_name (i := 5) sc_Book_init.nd) (dgs_cons (dg_name (i := 6) sc_Book_init.nd) dgs_nil))))
      (dss_one (ds_if (dt_notN (de_var 5)) (dss_one ds_no) dss_nil)))))
      (dss_cons (ds_putI K 0 (de_var 1))
      (dss_any 4 (dss_cons (ds_putI K 0 (DF.v (df_lc (own := [("body", 4)]) rfl sc_Book_init.nd (di_list K (de_var 2)) (blkOk_by (by rfl)) (fun _ _ _ _ _ => (dg_name (i := 4) sc_Book_init.nd)) (gin_name (by decide)) gmo_name (fun _ _ _ _ _ => dts_nil) (fun _ _ _ _ _ => (DF.v (df_call K H_copied_block (hr.mono (by decide)) G_copied_block.g G_copied_block.F.kp G_copied_block.b (da_cons (de_var 4) da_nil)))))))
      (dss_cons (ds_putI K 0 de_non)
      (dss_one (ds_putI K 0 de_non))))))))), ?_⟩
  rintro ds Q ⟨c, m, bs, rfl, ⟨hc1, hc3, hm1, hm3, hb⟩, q⟩
  have hbl := hb.len
  have hf1 : Cls K T_Book.C ∧ NoAttr K T_Book.C "many" := T_Book.fld
  have hf2 : Cls K T_Book.C ∧ NoAttr K T_Book.C "own" := T_Book.fld
  have hf3 : Cls K T_Book.C ∧ NoAttr K T_Book.C "run_memo" := T_Book.fld
  have hf4 : Cls K T_Book.C ∧ NoAttr K T_Book.C "deed_memo" := T_Book.fld
  walk_at "wr"
  refine ⟨_, rfl, trivial, ?_⟩
  walk_at "wr"
  refine i_forE (xs := bs) (fun b => .lst (blD b)) (fun dn γ => ∃ s3 s4 s5 s6, γ = [.ins true T_Book.C [], .val (.int (c : Nat)), .val (.lst (blsD bs)), s3, s4, s5, s6]) rfl ⟨_, _, _, _, rfl⟩ ?_ ?_
  · rintro dn b ps γ eb ⟨s3, s4, s5, s6, rfl⟩
    have hbm : b ∈ bs := by rw [eb]; exact List.mem_append_right _ (List.mem_cons_self ..)
    have h1 := hb.body b hbm
    have h2 := depB_wf h1.2.1
    walk_at "wr"
    rw [blsD_len, hbl]
    refine ⟨(b, c, m, 0, [], 0), rfl, ⟨by show depB b < 4; omega, by show 0 ≤ 3; omega, ⟨h1.1, h1.2.1, hc3, hm3⟩, by show 0 + 2 * 4 ≤ 1000; omega, by show 0 + cntB b ≤ 12; omega⟩, ?_⟩
    walk_at "wr"
    exact ⟨_, _, _, _, rfl⟩
  · rintro γ ⟨s3, s4, s5, s6, rfl⟩
    walk_at "wr"
    refine i_mapM (xs := bs) (fun b => .lst (blD b)) (fun b => .lst (blD b)) rfl (by omega) rfl (fun b hbm R hR => ?_) ?_
    · have h1 := hb.body b hbm
      have h2 := depB_wf h1.2.1
      walk_at "wr"
      refine ⟨(b, c, m, 3), rfl, ⟨by show depB b < 4; omega, h1.1, h1.2.1, hc3, hm3⟩, ?_⟩
      walk_at "wr"
      exact hR _ rfl
    walk_at "wr"
    exact ⟨_, rfl, q⟩
theorem ok_Book_cells (M : Blt mg) (hSeer : seerB K = true) (hTree : P.given.tree = none) (T_Book : Tc K mg "Book" ["many", "own", "run_memo", "deed_memo"]) (G_Book_cells : Gm K T_Book.C "cells" "Book.cells" s_Book_cells ["self"]) : FnOk P w K mg base CX0 1 G_Book_cells.f G_Book_cells.fd ["self"] (spV K (spec_bcells T_Book.C)) := by
  refine fn_ok G_Book_cells.F sc_Book_cells (fun ds Q ⟨a, e, _⟩ => by rw [e]; rfl) fun cdv A outer s0 H E hr => ⟨_, _, (dss_one (ds_ret (de_fld K (de_var 0)))), ?_⟩
  rintro ds Q ⟨⟨c, bs⟩, rfl, hB, q⟩
  have hf1 : Cls K T_Book.C ∧ NoAttr K T_Book.C "many" := T_Book.fld
  walk_at "wr"
theorem ok_Book_len (M : Blt mg) (hSeer : seerB K = true) (hTree : P.given.tree = none) (T_Book : Tc K mg "Book" ["many", "own", "run_memo", "deed_memo"]) (G_Book_len : Gm K T_Book.C "__len__" "Book.__len__" s_Book_len ["self"]) : FnOk P w K mg base CX0 1 G_Book_len.f G_Book_len.fd ["self"] (spV K (spec_blen T_Book.C)) := by
  refine fn_ok G_Book_len.F sc_Book_len (fun ds Q ⟨a, e, _⟩ => by rw [e]; rfl) fun cdv A outer s0 H E hr => ⟨_, _, (dss_one (ds_ret (de_callB cs_len call_len_seq M.len PySem.boot_len (da_cons (de_fld K (de_var 0)) da_nil)))), ?_⟩
  rintro ds Q ⟨⟨c, m, bs⟩, rfl, hB, q⟩
  have hf1 : Cls K T_Book.C ∧ NoAttr K T_Book.C "own" := T_Book.fld
  walk_at "wr"
  rw [blsD_len, hB.2.2.2.2.len]
  exact q
theorem ok_Book_bodies (M : Blt mg) (hSeer : seerB K = true) (hTree : P.given.tree = none) (G_blocks_of : Gf K mg "blocks_of" s_blocks_of ["statement"]) (G_copied_statement : Gf K mg "copied_statement" s_copied_statement ["statement"]) (G_copied_block : Gf K mg "copied_block" s_copied_block ["block"]) (T_Book : Tc K mg "Book" ["many", "own", "run_memo", "deed_memo"]) (G_Book_bodies : Gm K T_Book.C "bodies" "Book.bodies" s_Book_bodies ["self"]) : FnOk P w K mg base CX0 10 G_Book_bodies.f G_Book_bodies.fd ["self"] (spV K (spec_bbodies T_Book.C)) := by
  have H_copied_block := (ok_copied (P := P) (w := w) (base := base) M hSeer hTree G_blocks_of G_copied_statement G_copied_block 4).1
  refine fn_ok G_Book_bodies.F sc_Book_bodies (fun ds Q ⟨a, e, _⟩ => by rw [e]; rfl) fun cdv A outer s0 H E hr => ⟨_, _, (dss_one (ds_retF (df_lc (own := [("body", 1)]) rfl sc_Book_bodies.nd (di_list K (de_fld K (de_var 0))) (blkOk_by (by rfl)) (fun _ _ _ _ _ => (dg_name (i := 1) sc_Book_bodies.nd)) (gin_name (by decide)) gmo_name (fun _ _ _ _ _ => dts_nil) (fun _ _ _ _ _ => (DF.v (df_call K H_copied_block (hr.mono (by decide)) G_copied_block.g G_copied_block.F.kp G_copied_block.b (da_cons (de_var 1) da_nil))))))), ?_⟩
  rintro ds Q ⟨⟨c, m, bs⟩, rfl, hB, q⟩
  have hf1 : Cls K T_Book.C ∧ NoAttr K T_Book.C "own" := T_Book.fld
  walk_at "wr"
  have hbl := hB.2.2.2.2.len
  have hm3 := hB.2.2.2.1
  dsimp only at hbl hm3
  refine i_mapM (xs := bs) (fun b => .lst (blD b)) (fun b => .lst (blD b)) rfl (by omega) rfl (fun b hbm R hR => ?_) ?_
  · have h1 := hB.2.2.2.2.body b hbm
    have h2 := depB_wf h1.2.1
    walk_at "wr"
    refine ⟨(b, c, m, 3), rfl, ⟨by show depB b < 4; omega, h1.1, h1.2.1, hB.2.1, hm3⟩, ?_⟩
    walk_at "wr"
    exact hR _ rfl
  exact q
end

/-! ### the pool of the law -/
abbrev s_L_pool : Stmt := topS 32
theorem sc_L_pool : FnScope ["_law_script", "_law_seed", "_law_cell"] ["_law_script"] (defScope s_L_pool) := ⟨rfl, rfl, rfl, by decide +kernel, rfl, by decide +kernel, by decide +kernel⟩

abbrev s_L_draw : Stmt := topS 33
theorem sc_L_draw : FnScope ["_law_pool_here", "_law_many", "_law_cell", "_law_digit", "_law_number"] ["_law_pool_here", "_law_many"] (defScope s_L_draw) := ⟨rfl, rfl, rfl, by decide +kernel, rfl, by decide +kernel, by decide +kernel⟩

section
variable {P : Program} {w : World} {K : PySem.W.Frag} {mg : Str → Option Value} {base : Heap}
theorem ok_L_pool (M : Blt mg) (G_L_pool : Gf K mg "_law_pool" s_L_pool ["_law_script"]) : FnOk P w K mg base CX0 1 G_L_pool.f G_L_pool.fd ["_law_script"] (spS K spec_L_pool) := by
  refine fn_okS G_L_pool.F sc_L_pool rfl fun cdv A outer s0 H E hr => ⟨_, _, (dss_cons (ds_set (i := 1) sc_L_pool.nd de_int)
      (dss_cons (ds_for PassesOwn.never rfl (di_list K (DF.v (df_slS K 0 do_none (do_some de_int)))) (dg_name (i := 2) sc_L_pool.nd) (dss_one (ds_set (i := 1) sc_L_pool.nd (de_mod (de_callTy cs_int call_int1 M.int (by decide +kernel) (da_cons (de_add (de_add (de_mulK (de_var 1) de_int) (de_var 2)) de_int) da_nil)) de_int))))
      (dss_one (ds_retF (df_lst (da_cons (DF.v (df_list K M.list (DF.v (df_slS K 0 do_none (do_some de_int))))) (da_cons de_int (da_cons de_int (da_cons de_int (da_cons (de_var 1) da_nil)))))))))), ?_⟩
  rintro ns Q ⟨h63, q⟩
  walk_at "wp"
  refine ⟨fun i γ => ∃ (z : Int) (s2 : Sl), γ = [.scr ns, .val (.int z), s2] ∧ 0 ≤ z ∧ z < 2147483629, ⟨17, _, rfl, by decide, by decide⟩, ?_, ?_⟩
  · rintro i d γ hd ⟨z, s2, rfl, h0, h1⟩
    obtain ⟨c, rfl⟩ : ∃ c : Int, d = .int c := by
      have : d ∈ cutL (ns.map D.int) none (some 63) := List.mem_of_getElem? hd
      unfold cutL at this
      have := List.mem_of_mem_drop (List.mem_of_mem_take this)
      obtain ⟨c, _, e⟩ := List.mem_map.mp this
      exact ⟨c, e.symm⟩
    walk_at "wp"
    exact ⟨_, _, rfl, Int.emod_nonneg _ (by decide), Int.emod_lt_of_pos _ (by decide)⟩
  · rintro γ ⟨z, s2, rfl, h0, h1⟩
    walk_at "wp"
    refine q _ ⟨ns.take 63, 0, 0, 0, z, ?_, by decide, by decide, h0, h1⟩
    have e : cutL (ns.map D.int) none (some 63) = (ns.take 63).map D.int := by
      unfold cutL
      rw [HT.sIx_none, List.drop_zero, show (some (63 : Int)) = some ((63 : Nat) : Int) from rfl, HT.sIx_nat, List.map_take, Nat.sub_zero, List.length_map]
      rw [List.take_eq_take_iff]
      simp
    rw [e]
theorem ok_L_draw (M : Blt mg) (G_L_draw : Gf K mg "_law_draw" s_L_draw ["_law_pool_here", "_law_many"]) : FnOk P w K mg base CX0 1 G_L_draw.f G_L_draw.fd ["_law_pool_here", "_law_many"] (spP K spec_L_draw) := by
  refine fn_okP G_L_draw.F sc_L_draw (fun pl ds Q ⟨_, a, e, _⟩ => by rw [e]; rfl) fun cdv A outer s0 H E hr => ⟨_, _, (dss_cons (ds_sub 0 (de_add (de_ixO K 0 de_int) de_int) de_int)
      (dss_cut (ds_if (DW.dt (dw_and (dt_eq (de_ixO K 0 de_int) de_int) (dw_and1 (dt_lt (de_ixO K 0 de_int) (de_callB cs_len call_len_seq M.len PySem.boot_len (da_cons (de_ixO K 0 de_int) da_nil)))))) (dss_cons (ds_set (i := 2) sc_L_draw.nd (de_ix K (de_ixO K 0 de_int) (de_ixO K 0 de_int)))
      (dss_cons (ds_sub 0 (de_add (de_ixO K 0 de_int) de_int) de_int)
      (dss_one (ds_if (dt_ge (de_var 2) (de_pow de_int de_int)) (dss_one (ds_sub 0 (de_var 2) de_int)) (dss_one (ds_sub 0 (de_mod (de_callTy cs_int call_int1 M.int (by decide +kernel) (da_cons (de_add (de_add (de_mulK (de_ixO K 0 de_int) de_int) (de_var 2)) de_int) da_nil)) de_int) de_int)))))) dss_nil)
      (dss_cons (ds_if (dt_gt (de_ixO K 0 de_int) de_int) (dss_cons (ds_set (i := 3) sc_L_draw.nd (de_mod (de_callTy cs_int call_int1 M.int (by decide +kernel) (da_cons (de_ixO K 0 de_int) da_nil)) (de_var 1)))
      (dss_cons (ds_sub 0 (de_fdv (de_ixO K 0 de_int) (de_var 1)) de_int)
      (dss_one (ds_ret (de_var 3))))) dss_nil)
      (dss_cons (ds_set (i := 4) sc_L_draw.nd (de_mod (de_callTy cs_int call_int1 M.int (by decide +kernel) (da_cons (de_add (de_add (de_mulK (de_ixO K 0 de_int) de_int) (de_mulK (de_ixO K 0 de_int) de_int)) de_int) da_nil)) de_int))
      (dss_cons (ds_set (i := 4) sc_L_draw.nd (de_mod (de_callTy cs_int call_int1 M.int (by decide +kernel) (da_cons (de_mulK (de_var 4) (de_add (de_fdv (de_var 4) de_int) de_int)) da_nil)) de_int))
      (dss_cons (ds_set (i := 4) sc_L_draw.nd (de_mod (de_callTy cs_int call_int1 M.int (by decide +kernel) (da_cons (de_mulK (de_var 4) (de_add (de_fdv (de_var 4) de_int) de_int)) da_nil)) de_int))
      (dss_one (ds_ret (de_mod (de_callTy cs_int call_int1 M.int (by decide +kernel) (da_cons (de_fdv (de_var 4) de_int) da_nil)) (de_var 1)))))))))), ?_⟩
  rintro pl ds Q ⟨⟨ns, ix, big, cnt, seed, rfl, h0, h1, h2, h3⟩, many, rfl, ⟨hm, hl⟩, q⟩
  walk_at "wp"
  refine ⟨fun γ => ∃ (ix big cnt seed : Int) (s2 : Sl), γ = [.own true [.lst (ns.map D.int), .int ix, .int big, .int cnt, .int seed], .val (.int many), s2, .any, .any] ∧ 0 ≤ ix ∧ 0 ≤ big ∧ 0 ≤ seed ∧ seed < 2147483629, ?_, ?_⟩
  · walk_at "wp"
    refine i_ite (fun hb => ?_) (fun hb => ?_)
    · walk_at "wp"
      refine i_ite (fun hx => ?_) (fun hx => ?_)
      · walk_at "wp"
        rw [List.length_map] at hx
        obtain ⟨c, hc, _⟩ := atI_int h0 hx
        refine i_ixL hc ?_
        walk_at "wp"
        refine i_ite (fun hg => ?_) (fun hg => ?_)
        · walk_at "wp"
          have hz : (0 : Int) ≤ 10 ^ (18 : Int).toNat := by decide
          exact ⟨ix + 1, c, cnt + 1, seed, _, rfl, by omega, by omega, h2, h3⟩
        · walk_at "wp"
          exact ⟨ix + 1, big, cnt + 1, _, _, rfl, by omega, h1, Int.emod_nonneg _ (by decide), Int.emod_lt_of_pos _ (by decide)⟩
      · walk_at "wp"
        exact ⟨ix, big, cnt + 1, seed, _, rfl, h0, h1, h2, h3⟩
    · walk_at "wp"
      exact ⟨ix, big, cnt + 1, seed, _, rfl, h0, h1, h2, h3⟩
  · rintro γ ⟨ix, big, cnt, seed, s2, rfl, h0, h1, h2, h3⟩
    have hd : CDivW big many := ⟨hm, hl⟩
    walk_at "wp"
    refine i_ite (fun hb => ?_) (fun hb => ?_)
    · walk_at "wp"
      exact ⟨_, rfl, q _ _ ⟨_, rfl, Int.emod_nonneg _ (by omega), Int.emod_lt_of_pos _ hm⟩ ⟨ns, ix, _, cnt, seed, rfl, h0, Int.ediv_nonneg h1 (by omega), h2, h3⟩⟩
    · walk_at "wp"
      exact ⟨_, rfl, q _ _ ⟨_, rfl, Int.emod_nonneg _ (by omega), Int.emod_lt_of_pos _ hm⟩ ⟨ns, ix, big, cnt, seed, rfl, h0, h1, h2, h3⟩⟩
end

/-! ### the law's books -/
abbrev s_L_row : Stmt := topS 34
theorem sc_L_row : FnScope ["_law_pool_here", "_law_cells", "_law_row_here", "_law_k", "_law_wide"] ["_law_pool_here", "_law_cells"] (defScope s_L_row) := ⟨rfl, rfl, rfl, by decide +kernel, rfl, by decide +kernel, by decide +kernel⟩

abbrev s_L_command : Stmt := topS 35
theorem sc_L_command : FnScope ["_law_pool_here", "_law_cells", "_law_at"] ["_law_pool_here", "_law_cells"] (defScope s_L_command) := ⟨rfl, rfl, rfl, by decide +kernel, rfl, by decide +kernel, by decide +kernel⟩

abbrev s_L_some_cells : Stmt := topS 36
theorem sc_L_some_cells : FnScope ["_law_pool_here", "_law_cells", "_law_cell", "_law_k"] ["_law_pool_here", "_law_cells"] (defScope s_L_some_cells) := ⟨rfl, rfl, rfl, by decide +kernel, rfl, by decide +kernel, by decide +kernel⟩

abbrev s_L_block : Stmt := topS 37
theorem sc_L_block : FnScope ["_law_pool_here", "_law_world", "_law_tier", "_law_most", "_law_found", "_law_k"] ["_law_pool_here", "_law_world", "_law_tier", "_law_most"] (defScope s_L_block) := ⟨rfl, rfl, rfl, by decide +kernel, rfl, by decide +kernel, by decide +kernel⟩

abbrev s_L_statement : Stmt := topS 38
theorem sc_L_statement : FnScope ["_law_pool_here", "_law_world", "_law_tier", "_law_kind", "_law_cells", "_law_kept", "_law_first", "_law_procedure", "_law_row_here"] ["_law_pool_here", "_law_world", "_law_tier"] (defScope s_L_statement) := ⟨rfl, rfl, rfl, by decide +kernel, rfl, by decide +kernel, by decide +kernel⟩

abbrev s_L_body : Stmt := topS 39
theorem sc_L_body : FnScope ["_law_pool_here", "_law_cells", "_law_many", "_law_room", "_law_tier", "_law_world", "_law_body_here"] ["_law_pool_here", "_law_cells", "_law_many", "_law_room", "_law_tier"] (defScope s_L_body) := ⟨rfl, rfl, rfl, by decide +kernel, rfl, by decide +kernel, by decide +kernel⟩

abbrev s_L_bodies : Stmt := topS 40
theorem sc_L_bodies : FnScope ["_law_pool_here", "_law_cells", "_law_many", "_law_room", "_law_k"] ["_law_pool_here", "_law_cells", "_law_many", "_law_room"] (defScope s_L_bodies) := ⟨rfl, rfl, rfl, by decide +kernel, rfl, by decide +kernel, by decide +kernel⟩

open Bk
def spec_lrow : SpecP := SpecP.of (fun c : Nat => [.int (c : Nat)]) PoolP (fun c => c ≤ 3) (fun c r => ∃ row, r = .f (intL row) ∧ Row c row)
def spec_lcom : SpecP := SpecP.of (fun c : Nat => [.int (c : Nat)]) PoolP (fun c => c ≤ 3) (fun c r => ∃ s, r = .d (stD s) ∧ isCom s = true ∧ ∀ m k, wf c m k s)
def spec_lcells : SpecP := SpecP.of (fun c : Nat => [.int (c : Nat)]) PoolP (fun c => c ≤ 3) (fun c r => ∃ cs, r = .f (intL cs) ∧ Cells c cs)
abbrev worldL (c m room : Nat) : List D := [.int (c : Nat), .int (m : Nat), .int (room : Nat)]
def spec_lst (d : Nat) : SpecPP := ⟨fun pl wl ds Q => PoolP pl ∧ ∃ c m room t : Nat, wl = worldL c m room ∧ ds = [.int (t : Nat)] ∧ (t + d = 3 ∧ c ≤ 3 ∧ 1 ≤ m ∧ m ≤ 3) ∧ ∀ (s : Sm) (pl' : List D) (room' : Nat), wf c m d s → room' + cnt s = room + 1 → PoolP pl' → Q (.d (stD s)) pl' (worldL c m room'),
  fun pl wl ds P P' k ⟨h, c, m, room, t, e1, e2, e3, q⟩ => ⟨h, c, m, room, t, e1, e2, e3, fun s pl' room' h1 h2 h3 => k _ _ _ (q s pl' room' h1 h2 h3)⟩⟩
def spec_lbk (d : Nat) : SpecPP := ⟨fun pl wl ds Q => PoolP pl ∧ ∃ c m room t most : Nat, wl = worldL c m room ∧ ds = [.int (t : Nat), .int (most : Nat)] ∧ (t + d = 4 ∧ 0 < d ∧ most ≤ 3 ∧ c ≤ 3 ∧ 1 ≤ m ∧ m ≤ 3) ∧ ∀ (b : List Sm) (pl' : List D) (room' : Nat) (r : Rv), r.val = .lst (blD b) → b.length ≤ most → wfL c m (d - 1) b → room' + cntB b = room → PoolP pl' → Q r pl' (worldL c m room'),
  fun pl wl ds P P' k ⟨h, c, m, room, t, most, e1, e2, e3, q⟩ => ⟨h, c, m, room, t, most, e1, e2, e3, fun b pl' room' r h0 h1 h2 h3 h4 => k _ _ _ (q b pl' room' r h0 h1 h2 h3 h4)⟩⟩
def spec_lbody : SpecP := SpecP.of (fun a : Nat × Nat × Nat => [.int (a.1 : Nat), .int (a.2.1 : Nat), .int (a.2.2 : Nat), .int 0]) PoolP (fun a => a.1 ≤ 3 ∧ 1 ≤ a.2.1 ∧ a.2.1 ≤ 3 ∧ 1 ≤ a.2.2 ∧ a.2.2 ≤ 12) (fun a r => ∃ b, r = .f (blD b) ∧ b.length ≤ 4 ∧ wfL a.1 a.2.1 3 b ∧ cntB b ≤ a.2.2)
def spec_lbodies : SpecP := SpecP.of (fun a : Nat × Nat × Nat => [.int (a.1 : Nat), .int (a.2.1 : Nat), .int (a.2.2 : Nat)]) PoolP (fun a => a.1 ≤ 3 ∧ 1 ≤ a.2.1 ∧ a.2.1 ≤ 3 ∧ 1 ≤ a.2.2 ∧ a.2.2 ≤ 12) (fun a r => ∃ bs, r = .f (blsD bs) ∧ bs.length = a.2.1 ∧ ∀ b ∈ bs, b.length ≤ 4 ∧ wfL a.1 a.2.1 3 b ∧ cntB b ≤ a.2.2)
section
variable {P : Program} {w : World} {K : PySem.W.Frag} {mg : Str → Option Value} {base : Heap}
theorem ok_L_row (M : Blt mg) (hSeer : seerB K = true) (hTree : P.given.tree = none) (G_L_draw : Gf K mg "_law_draw" s_L_draw ["_law_pool_here", "_law_many"]) (G_L_row : Gf K mg "_law_row" s_L_row ["_law_pool_here", "_law_cells"]) : FnOk P w K mg base CX0 2 G_L_row.f G_L_row.fd ["_law_pool_here", "_law_cells"] (spP K spec_lrow) := by
  have H_L_draw : FnOk P w K mg base CX0 1 G_L_draw.f G_L_draw.fd ["_law_pool_here", "_law_many"] (spP K spec_L_draw) := ok_L_draw M G_L_draw
  refine fn_okP G_L_row.F sc_L_row (fun pl ds Q ⟨_, a, e, _⟩ => by rw [e]; rfl) fun cdv A outer s0 H E hr => ⟨_, _, (dss_cons (ds_setO (i := 2) sc_L_row.nd (df_lst da_nil))
      (dss_cons (ds_for PassesOwn.never rfl (di_range1 M.range (da_cons (de_add (de_var 1) de_int) da_nil)) (dg_name (i := 3) sc_L_row.nd) (dss_cons (ds_set (i := 4) sc_L_row.nd (de_callP K 0 H_L_draw (hr.mono (by decide)) G_L_draw.g G_L_draw.F.kp G_L_draw.b (da_cons de_int da_nil)))
      (dss_one (ds_if (dt_eq (de_var 4) de_int) (dss_one (ds_app 2 (fun h => pe_bm PySem.F.plainAttrs_list PySem.F.slot_list_append PySem.F.type_list_append mt_append (pv 2) (pa_cons h pa_nil)) (de_sub (de_callP K 0 H_L_draw (hr.mono (by decide)) G_L_draw.g G_L_draw.F.kp G_L_draw.b (da_cons de_int da_nil)) de_int))) (dss_one (ds_app 2 (fun h => pe_bm PySem.F.plainAttrs_list PySem.F.slot_list_append PySem.F.type_list_append mt_append (pv 2) (pa_cons h pa_nil)) (de_sub (de_callP K 0 H_L_draw (hr.mono (by decide)) G_L_draw.g G_L_draw.F.kp G_L_draw.b (da_cons de_int da_nil)) de_int)))))))
      (dss_one (ds_retO 2)))), ?_⟩
  rintro pl ds Q ⟨hp, c, rfl, hc, q⟩
  walk_at "wr"
  refine ⟨fun i γ => ∃ pl row s3 s4, PoolP pl ∧ row.length = i ∧ (∀ x ∈ row, -9 ≤ x ∧ x ≤ 9) ∧ γ = [.own true pl, .val (.int (c : Nat)), .own false (intL row), s3, s4], ⟨pl, [], _, _, hp, rfl, (fun x hx => by cases hx), rfl⟩, ?_, ?_⟩
  · rintro i d γ hd ⟨pl, row, s3, s4, hp, hl, hrow, rfl⟩
    obtain ⟨rfl, hi⟩ := rng0_inv hd
    walk_at "wr"
    refine draw_i (many := 4) hp (.of (by omega)) fun n pl n0 n1 hp => ?_
    walk_at "wr"
    have hz : row.length < 10 := by omega
    refine i_ite (fun h => ?_) (fun h => ?_)
    · walk_at "wr"
      refine draw_i (many := 19) hp (.of (by omega)) fun n2 pl n20 n21 hp => ?_
      walk_at "wr"
      exact ⟨pl, row ++ [n2 - 9], _, _, hp, by rw [List.length_append, hl]; rfl, fun x hx => by
        rcases List.mem_append.mp hx with z | z
        · exact hrow x z
        · rw [List.mem_singleton.mp z]; omega, by rw [intL_append]; rfl⟩
    · walk_at "wr"
      refine draw_i (many := 3) hp (.of (by omega)) fun n2 pl n20 n21 hp => ?_
      walk_at "wr"
      exact ⟨pl, row ++ [n2 - 1], _, _, hp, by rw [List.length_append, hl]; rfl, fun x hx => by
        rcases List.mem_append.mp hx with z | z
        · exact hrow x z
        · rw [List.mem_singleton.mp z]; omega, by rw [intL_append]; rfl⟩
  · rintro γ ⟨pl, row, s3, s4, hp, hl, hrow, rfl⟩
    walk_at "wr"
    rw [rngD_len] at hl
    exact ⟨pl, rfl, q _ _ ⟨row, rfl, by rw [hl]; omega, hrow⟩ hp⟩
theorem ok_L_command (M : Blt mg) (hSeer : seerB K = true) (hTree : P.given.tree = none) (G_L_draw : Gf K mg "_law_draw" s_L_draw ["_law_pool_here", "_law_many"]) (G_L_row : Gf K mg "_law_row" s_L_row ["_law_pool_here", "_law_cells"]) (G_L_command : Gf K mg "_law_command" s_L_command ["_law_pool_here", "_law_cells"]) : FnOk P w K mg base CX0 3 G_L_command.f G_L_command.fd ["_law_pool_here", "_law_cells"] (spP K spec_lcom) := by
  have H_L_draw : FnOk P w K mg base CX0 1 G_L_draw.f G_L_draw.fd ["_law_pool_here", "_law_many"] (spP K spec_L_draw) := ok_L_draw M G_L_draw
  have H_L_row := ok_L_row (P := P) (w := w) (base := base) M hSeer hTree G_L_draw G_L_row
  refine fn_okP G_L_command.F sc_L_command (fun pl ds Q ⟨_, a, e, _⟩ => by rw [e]; rfl) fun cdv A outer s0 H E hr => ⟨_, _, (dss_cons (ds_set (i := 2) sc_L_command.nd (de_callP K 0 H_L_draw (hr.mono (by decide)) G_L_draw.g G_L_draw.F.kp G_L_draw.b (da_cons (de_add (de_var 1) de_int) da_nil)))
      (dss_cons (ds_if (dt_eq (de_var 2) (de_var 1)) (dss_one (ds_ret (de_tup (da_cons de_str (da_cons (DF.v (df_callP K 0 H_L_row (hr.mono (by decide)) G_L_row.g G_L_row.F.kp G_L_row.b (da_cons (de_var 1) da_nil))) da_nil))))) dss_nil)
      (dss_one (ds_ret (de_tup (da_cons de_str (da_cons (de_var 2) (da_cons (DF.v (df_callP K 0 H_L_row (hr.mono (by decide)) G_L_row.g G_L_row.F.kp G_L_row.b (da_cons (de_var 1) da_nil))) da_nil)))))))), ?_⟩
  rintro pl ds Q ⟨hp, c, rfl, hc, q⟩
  dsimp only at hc q
  walk_at "wr"
  refine draw_i (many := (c : Int) + 1) hp (.of (by omega)) fun n pl n0 n1 hp => ?_
  obtain ⟨i, rfl⟩ : ∃ i : Nat, n = (i : Int) := ⟨n.toNat, by omega⟩
  walk_at "wr"
  refine i_ite (fun h => ?_) (fun h => ?_)
  · walk_at "wr"
    refine ⟨hp, c, rfl, hc, fun r pl' ⟨row, e, hrow⟩ hp => ?_⟩
    subst e
    walk_at "wr"
    exact ⟨pl', rfl, q _ _ ⟨.carry row, rfl, rfl, fun m k => by unfold wf; exact hrow⟩ hp⟩
  · walk_at "wr"
    refine ⟨hp, c, rfl, hc, fun r pl' ⟨row, e, hrow⟩ hp => ?_⟩
    subst e
    walk_at "wr"
    exact ⟨pl', rfl, q _ _ ⟨.set i row, rfl, rfl, fun m k => by unfold wf; exact ⟨by omega, hrow⟩⟩ hp⟩
theorem ok_L_some_cells (M : Blt mg) (hSeer : seerB K = true) (hTree : P.given.tree = none) (G_L_draw : Gf K mg "_law_draw" s_L_draw ["_law_pool_here", "_law_many"]) (G_L_some_cells : Gf K mg "_law_some_cells" s_L_some_cells ["_law_pool_here", "_law_cells"]) : FnOk P w K mg base CX0 2 G_L_some_cells.f G_L_some_cells.fd ["_law_pool_here", "_law_cells"] (spP K spec_lcells) := by
  have H_L_draw : FnOk P w K mg base CX0 1 G_L_draw.f G_L_draw.fd ["_law_pool_here", "_law_many"] (spP K spec_L_draw) := ok_L_draw M G_L_draw
  refine fn_okP G_L_some_cells.F sc_L_some_cells (fun pl ds Q ⟨_, a, e, _⟩ => by rw [e]; rfl) fun cdv A outer s0 H E hr => ⟨_, _, (dss_one (ds_retF (df_lc (own := [("_law_cell", 2)]) rfl sc_L_some_cells.nd (di_list K (DF.v (df_lc (own := [("_law_k", 3)]) rfl sc_L_some_cells.nd (di_range1 M.range (da_cons (de_var 1) da_nil)) (blkOk_by (by rfl)) (fun _ _ _ _ _ => (dg_name (i := 3) sc_L_some_cells.nd)) (gin_name (by decide)) gmo_name (fun _ _ _ _ _ => dts_nil) (fun _ _ _ _ _ => (de_var 3))))) (blkOk_by (by rfl)) (fun _ _ _ _ _ => (dg_name (i := 2) sc_L_some_cells.nd)) (gin_name (by decide)) gmo_name (fun _ _ _ _ _ => (dts_one (dt_eq (de_callP K 0 H_L_draw (hr.mono (by decide)) G_L_draw.g G_L_draw.F.kp G_L_draw.b (da_cons de_int da_nil)) de_int))) (fun _ _ _ _ _ => (de_var 2))))), ?_⟩
  rintro pl ds Q ⟨hp, c, rfl, hc, q⟩
  dsimp only at hc q
  walk_at "wr"
  refine i_mapN (n := c) (fun i => .int (i : Int)) (fun i => .int (i : Int)) (dLs_rng c) (by omega) rfl (fun i hi R hR => ?_) ?_
  · walk_at "wr"
    exact hR _ rfl
  walk_at "wr"
  refine ⟨by rw [dLs_len]; exact smallN (by omega), anyAt_ok rfl, fun i acc γ => ∃ pl cs, PoolP pl ∧ acc = intL cs ∧ (∀ x ∈ cs, 0 ≤ x ∧ x < (i : Int)) ∧ cs.Pairwise (· < ·) ∧ i ≤ c ∧ γ = [.own true pl, .val (.int (c : Nat)), .any, .any], ⟨pl, [], hp, rfl, (fun x hx => by cases hx), .nil, by omega, rfl⟩, ?_, ?_⟩
  · rintro i acc γ d hd ⟨pl, cs, hp, rfl, hcs, hpw, hic, rfl⟩
    obtain ⟨rfl, hi⟩ := dLs_inv hd
    refine ⟨anyAt_ok rfl, ?_⟩
    walk_at "wr"
    refine draw_i (many := 2) hp (.of (by omega)) fun n pl n0 n1 hp => ?_
    walk_at "wr"
    refine i_ite (fun h => ?_) (fun h => ?_)
    · walk_at "wr"
      refine ⟨pl, cs ++ [(i : Int)], hp, by rw [intL_append]; rfl, fun x hx => ?_, ?_, hi, rfl⟩
      · rcases List.mem_append.mp hx with z | z
        · have := hcs x z; omega
        · rw [List.mem_singleton.mp z]; omega
      · refine List.pairwise_append.mpr ⟨hpw, List.pairwise_singleton .., fun x hx y hy => ?_⟩
        rw [List.mem_singleton.mp hy]
        exact (hcs x hx).2
    · exact ⟨pl, cs, hp, rfl, fun x hx => by have := hcs x hx; omega, hpw, hi, rfl⟩
  · rintro acc γ ⟨pl, cs, hp, rfl, hcs, hpw, hic, rfl⟩
    refine ⟨anyAt_ok rfl, ?_⟩
    rw [dLs_len] at hcs
    exact ⟨pl, rfl, q _ _ ⟨cs, rfl, hcs, hpw⟩ hp⟩
end

open Bk
theorem lst_app {d c m room t : Nat} {pl : List D} {Q : Rv → List D → List D → Prop} (hp : PoolP pl) (h1 : t + d = 3) (hc : c ≤ 3) (hm : 1 ≤ m ∧ m ≤ 3) (q : ∀ (s : Sm) (pl' : List D) (room' : Nat), wf c m d s → room' + Bk.cnt s = room + 1 → PoolP pl' → Q (.d (stD s)) pl' (worldL c m room')) : (spec_lst d).S pl (worldL c m room) [.int (t : Nat)] Q :=
  ⟨hp, c, m, room, t, rfl, rfl, ⟨h1, hc, hm.1, hm.2⟩, q⟩
theorem lbk_app {d c m room t most : Nat} {pl : List D} {Q : Rv → List D → List D → Prop} (hp : PoolP pl) (h1 : t + d = 4) (hd : 0 < d) (hmo : most ≤ 3) (hc : c ≤ 3) (hm : 1 ≤ m ∧ m ≤ 3) (q : ∀ (b : List Sm) (pl' : List D) (room' : Nat) (r : Rv), r.val = .lst (blD b) → b.length ≤ most → wfL c m (d - 1) b → room' + cntB b = room → PoolP pl' → Q r pl' (worldL c m room')) : (spec_lbk d).S pl (worldL c m room) [.int (t : Nat), .int (most : Nat)] Q :=
  ⟨hp, c, m, room, t, most, rfl, rfl, ⟨h1, hd, hmo, hc, hm.1, hm.2⟩, q⟩
theorem flats_world (c m room : Nat) : flats (worldL c m room) := fun d hd => by
  simp only [List.mem_cons, List.mem_nil_iff, or_false] at hd
  rcases hd with hd | hd | hd <;> (subst hd; trivial)
theorem lcom_app {c : Nat} {pl : List D} {Q : Rv → List D → Prop} (hp : PoolP pl) (hc : c ≤ 3) (q : ∀ (s : Sm) (pl' : List D), (∀ m k, wf c m k s) → Bk.cnt s = 1 → PoolP pl' → Q (.d (stD s)) pl') : (spec_lcom).S pl [.int (c : Nat)] Q :=
  ⟨hp, c, rfl, hc, fun r pl' ⟨s, e, hs, hw⟩ hp => by
    subst e
    exact q s pl' hw (by cases s <;> first | rfl | (cases hs)) hp⟩
section
variable {P : Program} {w : World} {K : PySem.W.Frag} {mg : Str → Option Value} {base : Heap}
theorem ok_L_stbk (M : Blt mg) (hSeer : seerB K = true) (hTree : P.given.tree = none) (G_L_draw : Gf K mg "_law_draw" s_L_draw ["_law_pool_here", "_law_many"]) (G_L_row : Gf K mg "_law_row" s_L_row ["_law_pool_here", "_law_cells"]) (G_L_command : Gf K mg "_law_command" s_L_command ["_law_pool_here", "_law_cells"]) (G_L_some_cells : Gf K mg "_law_some_cells" s_L_some_cells ["_law_pool_here", "_law_cells"]) (G_L_block : Gf K mg "_law_block" s_L_block ["_law_pool_here", "_law_world", "_law_tier", "_law_most"]) (G_L_statement : Gf K mg "_law_statement" s_L_statement ["_law_pool_here", "_law_world", "_law_tier"]) : ∀ d, FnOk P w K mg base CX0 (2 * d + 3) G_L_block.f G_L_block.fd ["_law_pool_here", "_law_world", "_law_tier", "_law_most"] (spPP K (spec_lbk d)) ∧ FnOk P w K mg base CX0 (2 * d + 3 + 1) G_L_statement.f G_L_statement.fd ["_law_pool_here", "_law_world", "_law_tier"] (spPP K (spec_lst d)) := by
  have H_L_draw : FnOk P w K mg base CX0 1 G_L_draw.f G_L_draw.fd ["_law_pool_here", "_law_many"] (spP K spec_L_draw) := ok_L_draw M G_L_draw
  have H_L_row := ok_L_row (P := P) (w := w) (base := base) M hSeer hTree G_L_draw G_L_row
  have H_L_command := ok_L_command (P := P) (w := w) (base := base) M hSeer hTree G_L_draw G_L_row G_L_command
  have H_L_some_cells := ok_L_some_cells (P := P) (w := w) (base := base) M hSeer hTree G_L_draw G_L_some_cells
  have cs : ∀ d, FnOk P w K mg base CX0 (2 * d + 3) G_L_block.f G_L_block.fd ["_law_pool_here", "_law_world", "_law_tier", "_law_most"] (spPP K (spec_lbk d)) → FnOk P w K mg base CX0 (2 * d + 3 + 1) G_L_statement.f G_L_statement.fd ["_law_pool_here", "_law_world", "_law_tier"] (spPP K (spec_lst d)) := by
    intro d H_L_block
    refine fn_okPP G_L_statement.F sc_L_statement (fun pl wl ds Q ⟨_, c, m, room, t, _, e, _⟩ => by rw [e]; rfl) fun cdv A outer s0 H E hr => ⟨_, _, (dss_cons (ds_set (i := 3) sc_L_statement.nd (de_callP K 0 H_L_draw (hr.mono (by omega)) G_L_draw.g G_L_draw.F.kp G_L_draw.b (da_cons de_int da_nil)))
      (dss_cons (ds_set (i := 4) sc_L_statement.nd (de_ixO K 1 de_int))
      (dss_cons (ds_if (dt_eq (de_var 3) de_int) (dss_one (ds_ret (de_tup (da_cons de_str (da_cons (de_callP K 0 H_L_draw (hr.mono (by omega)) G_L_draw.g G_L_draw.F.kp G_L_draw.b (da_cons de_int da_nil)) da_nil))))) dss_nil)
      (dss_cons (ds_if (DW.dt (dw_or (dt_lt (de_var 3) de_int) (dw_or1 (dt_gt (de_var 2) de_int)))) (dss_one (ds_ret (de_callP K 0 H_L_command (hr.mono (by omega)) G_L_command.g G_L_command.F.kp G_L_command.b (da_cons (de_var 4) da_nil)))) dss_nil)
      (dss_cons (ds_if (dt_eq (de_var 3) de_int) (dss_cons (ds_set (i := 5) sc_L_statement.nd (DF.v (df_callP K 0 H_L_some_cells (hr.mono (by omega)) G_L_some_cells.g G_L_some_cells.F.kp G_L_some_cells.b (da_cons (de_var 4) da_nil))))
      (dss_one (ds_ret (de_tup (da_cons de_str (da_cons (de_var 5) (da_cons (de_callPP K 0 1 H_L_block (hr.mono (by omega)) G_L_block.g G_L_block.F.kp G_L_block.b (da_cons (de_add (de_var 2) de_int) (da_cons de_int da_nil))) da_nil))))))) dss_nil)
      (dss_cons (ds_if (dt_eq (de_var 3) de_int) (dss_cons (ds_set (i := 6) sc_L_statement.nd (de_callPP K 0 1 H_L_block (hr.mono (by omega)) G_L_block.g G_L_block.F.kp G_L_block.b (da_cons (de_add (de_var 2) de_int) (da_cons de_int da_nil))))
      (dss_one (ds_ret (de_tup (da_cons de_str (da_cons (de_var 6) (da_cons (de_callPP K 0 1 H_L_block (hr.mono (by omega)) G_L_block.g G_L_block.F.kp G_L_block.b (da_cons (de_add (de_var 2) de_int) (da_cons de_int da_nil))) da_nil))))))) dss_nil)
      (dss_cons (ds_if (dt_eq (de_var 3) de_int) (dss_one (ds_ret (de_tup (da_cons de_str (da_cons (de_callPP K 0 1 H_L_block (hr.mono (by omega)) G_L_block.g G_L_block.F.kp G_L_block.b (da_cons (de_add (de_var 2) de_int) (da_cons de_int da_nil))) da_nil))))) dss_nil)
      (dss_cons (ds_set (i := 7) sc_L_statement.nd (de_callP K 0 H_L_draw (hr.mono (by omega)) G_L_draw.g G_L_draw.F.kp G_L_draw.b (da_cons (de_ixO K 1 de_int) da_nil)))
      (dss_cons (ds_set (i := 8) sc_L_statement.nd (DF.v (df_callP K 0 H_L_row (hr.mono (by omega)) G_L_row.g G_L_row.F.kp G_L_row.b (da_cons (de_var 4) da_nil))))
      (dss_cons (ds_set (i := 6) sc_L_statement.nd (de_callPP K 0 1 H_L_block (hr.mono (by omega)) G_L_block.g G_L_block.F.kp G_L_block.b (da_cons (de_add (de_var 2) de_int) (da_cons de_int da_nil))))
      (dss_one (ds_ret (de_tup (da_cons de_str (da_cons (de_var 7) (da_cons (de_var 8) (da_cons (DF.v (df_lst (da_cons (de_var 6) (da_cons (de_callPP K 0 1 H_L_block (hr.mono (by omega)) G_L_block.g G_L_block.F.kp G_L_block.b (da_cons (de_add (de_var 2) de_int) (da_cons de_int da_nil))) da_nil)))) da_nil))))))))))))))))), ?_⟩
    rintro pl wl ds Q fl ⟨hp, c, m, room, t, rfl, rfl, ⟨ht, hc, hm1, hm3⟩, q⟩
    clear fl
    walk_at "wr"
    refine draw_i (many := 10) hp (.of (by omega)) fun n pl n0 n1 hp => ?_
    walk_at "wr"
    refine i_ite (fun h4 => ?_) (fun h4 => ?_)
    · walk_at "wr"
      refine draw_i (many := 2) hp (.of (by omega)) fun n2 pl n20 n21 hp => ?_
      obtain ⟨b, rfl⟩ : ∃ i : Nat, n2 = (i : Int) := ⟨n2.toNat, by omega⟩
      walk_at "wr"
      exact ⟨_, _, rfl, rfl, q (.end_ b) pl room (by unfold wf; omega) rfl hp⟩
    have hd : (n < 4 ∨ 2 < (t : Int)) ∨ (4 < n ∧ 0 < d) := by omega
    have et : (t : Int) + 1 = ((t + 1 : Nat) : Int) := rfl
    have e3 : D.int 3 = D.int ((3 : Nat) : Int) := rfl
    have e2 : D.int 2 = D.int ((2 : Nat) : Int) := rfl
    walk_at "wr"
    refine i_ite (fun h => ?_) (fun h => ?_)
    · walk_at "wr"
      refine lcom_app hp hc fun s pl hw hn hp => ?_
      walk_at "wr"
      exact ⟨_, _, rfl, rfl, q s pl room (hw m d) (by omega) hp⟩
    walk_at "wr"
    refine i_ite (fun h2 => ?_) (fun h2 => ?_)
    · walk_at "wr"
      refine lcom_app hp hc fun s pl hw hn hp => ?_
      walk_at "wr"
      exact ⟨_, _, rfl, rfl, q s pl room (hw m d) (by omega) hp⟩
    have hd0 : 0 < d := by omega
    walk_at "wr"
    refine i_ite (fun h5 => ?_) (fun h5 => ?_)
    · walk_at "wr"
      refine ⟨hp, c, rfl, hc, fun r pl' ⟨cs, e, hcs⟩ hp => ?_⟩
      subst e
      walk_at "wr"
      try rw [et, e3]
      refine lbk_app (t := t + 1) hp (by omega) hd0 (by omega) hc ⟨hm1, hm3⟩ fun b pl room' r er hbl hbw hro hp => ?_
      refine ⟨flats_world _ _ _, ?_⟩
      rw [er]
      walk_at "wr"
      exact ⟨_, _, rfl, rfl, q (.keep cs b) pl room' (by unfold wf; exact ⟨hd0, hcs, by omega, hbw⟩) (by show room' + (cntB b + 1) = _; omega) hp⟩
    walk_at "wr"
    refine i_ite (fun h6 => ?_) (fun h6 => ?_)
    · walk_at "wr"
      try rw [et, e3]
      refine lbk_app (t := t + 1) hp (by omega) hd0 (by omega) hc ⟨hm1, hm3⟩ fun a pl room1 r er hal haw hro1 hp => ?_
      refine ⟨flats_world _ _ _, ?_⟩
      rw [er]
      walk_at "wr"
      try rw [et, e3]
      refine lbk_app (t := t + 1) hp (by omega) hd0 (by omega) hc ⟨hm1, hm3⟩ fun b pl room' r er hbl hbw hro hp => ?_
      refine ⟨flats_world _ _ _, ?_⟩
      rw [er]
      walk_at "wr"
      exact ⟨_, _, rfl, rfl, q (.either a b) pl room' (by unfold wf; exact ⟨hd0, ⟨by omega, haw⟩, by omega, hbw⟩) (by show room' + (cntB a + cntB b + 1) = _; omega) hp⟩
    walk_at "wr"
    refine i_ite (fun h7 => ?_) (fun h7 => ?_)
    · walk_at "wr"
      try rw [et, e3]
      refine lbk_app (t := t + 1) hp (by omega) hd0 (by omega) hc ⟨hm1, hm3⟩ fun b pl room' r er hbl hbw hro hp => ?_
      refine ⟨flats_world _ _ _, ?_⟩
      rw [er]
      walk_at "wr"
      exact ⟨_, _, rfl, rfl, q (.again b) pl room' (by unfold wf; exact ⟨hd0, by omega, hbw⟩) (by show room' + (cntB b + 1) = _; omega) hp⟩
    walk_at "wr"
    refine draw_i (many := (m : Int)) hp (.of (by omega)) fun p pl p0 p1 hp => ?_
    obtain ⟨p, rfl⟩ : ∃ i : Nat, p = (i : Int) := ⟨p.toNat, by omega⟩
    walk_at "wr"
    refine ⟨hp, c, rfl, hc, fun r pl' ⟨row, e, hrow⟩ hp => ?_⟩
    subst e
    walk_at "wr"
    try rw [et, e2]
    refine lbk_app (t := t + 1) hp (by omega) hd0 (by omega) hc ⟨hm1, hm3⟩ fun a pl room1 r er hal haw hro1 hp => ?_
    refine ⟨flats_world _ _ _, ?_⟩
    rw [er]
    walk_at "wr"
    try rw [et, e2]
    refine lbk_app (t := t + 1) hp (by omega) hd0 (by omega) hc ⟨hm1, hm3⟩ fun b pl room' r er hbl hbw hro hp => ?_
    refine ⟨flats_world _ _ _, ?_⟩
    rw [er]
    walk_at "wr"
    exact ⟨_, _, rfl, rfl, q (.call p row a b) pl room' (by unfold wf; exact ⟨hd0, ⟨by omega, hrow⟩, ⟨by omega, haw⟩, by omega, hbw⟩) (by show room' + (cntB a + cntB b + 1) = _; omega) hp⟩
  intro d
  induction d with
  | zero =>
    have h0 : FnOk P w K mg base CX0 (2 * 0 + 3) G_L_block.f G_L_block.fd ["_law_pool_here", "_law_world", "_law_tier", "_law_most"] (spPP K (spec_lbk 0)) := (fn_nonePP fun pl wl ds Q (h : (spec_lbk 0).S pl wl ds Q) => let ⟨_, _, _, _, _, _, _, _, h, _⟩ := h; Nat.not_lt_zero _ h.2.1).mono (Nat.zero_le _)
    exact ⟨h0, cs 0 h0⟩
  | succ d ih =>
    have H_L_statement := ih.2
    have h1 : FnOk P w K mg base CX0 (2 * (d + 1) + 2 + 1) G_L_block.f G_L_block.fd ["_law_pool_here", "_law_world", "_law_tier", "_law_most"] (spPP K (spec_lbk (d + 1))) := by
      refine fn_okPP G_L_block.F sc_L_block (fun pl wl ds Q ⟨_, c, m, room, t, most, _, e, _⟩ => by rw [e]; rfl) fun cdv A outer s0 H E hr => ⟨_, _, (dss_cons (ds_setO (i := 4) sc_L_block.nd (df_lst da_nil))
      (dss_cons (ds_for PassesOwn.never rfl (di_range1 M.range (da_cons (de_callP K 0 H_L_draw (hr.mono (by omega)) G_L_draw.g G_L_draw.F.kp G_L_draw.b (da_cons (de_add (de_var 3) de_int) da_nil)) da_nil)) (dg_name (i := 5) sc_L_block.nd) (dss_one (ds_if (dt_gt (de_ixO K 1 de_int) de_int) (dss_cons (ds_sub 1 (de_sub (de_ixO K 1 de_int) de_int) de_int)
      (dss_one (ds_app 4 (fun h => pe_bm PySem.F.plainAttrs_list PySem.F.slot_list_append PySem.F.type_list_append mt_append (pv 4) (pa_cons h pa_nil)) (de_callPP K 0 1 H_L_statement (hr.mono (by omega)) G_L_statement.g G_L_statement.F.kp G_L_statement.b (da_cons (de_var 2) da_nil))))) dss_nil)))
      (dss_frz 4 (dss_one (ds_ret (de_var 4)))))), ?_⟩
      rintro pl wl ds Q fl ⟨hp, c, m, room, t, most, rfl, rfl, ⟨ht, hd, hmo, hc, hm1, hm3⟩, q⟩
      clear fl
      walk_at "wr"
      refine draw_i (many := (most : Int) + 1) hp (.of (by omega)) fun n pl n0 n1 hp => ?_
      obtain ⟨n, rfl⟩ : ∃ i : Nat, n = (i : Int) := ⟨n.toNat, by omega⟩
      walk_at "wr"
      refine ⟨fun i γ => ∃ (pl : List D) (room' : Nat) (b : List Sm) (s5 : Sl), PoolP pl ∧ room' + cntB b = room ∧ b.length ≤ i ∧ wfL c m d b ∧ γ = [.own true pl, .own true (worldL c m room'), .val (.int (t : Nat)), .val (.int (most : Nat)), .own false (blD b), s5], ⟨pl, room, [], _, hp, rfl, by simp, trivial, rfl⟩, ?_, ?_⟩
      · rintro i x γ hx ⟨pl, room', b, s5, hp, hroom, hbl, hbw, rfl⟩
        obtain ⟨rfl, hi⟩ := rng0_inv hx
        walk_at "wr"
        refine i_ite (fun h0 => ?_) (fun h0 => ?_)
        · obtain ⟨r1, rfl⟩ : ∃ r1, room' = r1 + 1 := ⟨room' - 1, by omega⟩
          walk_at "wr"
          rw [show ((r1 + 1 : Nat) : Int) - 1 = ((r1 : Nat) : Int) by omega]
          walk_at "wr"
          refine lst_app (t := t) (room := r1) (d := d) hp (by omega) hc ⟨hm1, hm3⟩ fun s pl room2 hsw hro hp => ?_
          refine ⟨flats_world _ _ _, ?_⟩
          have hz : (blD b).length < 10 := by rw [blD_len]; omega
          walk_at "wr"
          have eb : blD b ++ [stD s] = blD (b ++ [s]) := by rw [blD_map, blD_map, List.map_append]; rfl
          rw [eb]
          exact ⟨pl, room2, b ++ [s], _, hp, by rw [cntB_append]; show room2 + (cntB b + (Bk.cnt s + 0)) = room; omega, by rw [List.length_append]; show b.length + 1 ≤ i + 1; omega, wfL_of fun x hx => by
            rcases List.mem_append.mp hx with z | z
            · exact wfL_mem hbw z
            · rw [List.mem_singleton.mp z]; exact hsw, rfl⟩
        · walk_at "wr"
          exact ⟨pl, room', b, _, hp, hroom, by omega, hbw, rfl⟩
      · rintro γ ⟨pl, room', b, s5, hp, hroom, hbl, hbw, rfl⟩
        rw [rngD_len] at hbl
        walk_at "wr"
        exact ⟨_, _, rfl, rfl, q b pl room' _ rfl (by omega) hbw hroom hp⟩
    exact ⟨h1, cs (d + 1) h1⟩
theorem ok_L_body (M : Blt mg) (hSeer : seerB K = true) (hTree : P.given.tree = none) (G_L_draw : Gf K mg "_law_draw" s_L_draw ["_law_pool_here", "_law_many"]) (G_L_row : Gf K mg "_law_row" s_L_row ["_law_pool_here", "_law_cells"]) (G_L_command : Gf K mg "_law_command" s_L_command ["_law_pool_here", "_law_cells"]) (G_L_some_cells : Gf K mg "_law_some_cells" s_L_some_cells ["_law_pool_here", "_law_cells"]) (G_L_block : Gf K mg "_law_block" s_L_block ["_law_pool_here", "_law_world", "_law_tier", "_law_most"]) (G_L_statement : Gf K mg "_law_statement" s_L_statement ["_law_pool_here", "_law_world", "_law_tier"]) (G_L_body : Gf K mg "_law_body" s_L_body ["_law_pool_here", "_law_cells", "_law_many", "_law_room", "_law_tier"]) : FnOk P w K mg base CX0 13 G_L_body.f G_L_body.fd ["_law_pool_here", "_law_cells", "_law_many", "_law_room", "_law_tier"] (spP K spec_lbody) := by
  have H_L_statement := (ok_L_stbk (P := P) (w := w) (base := base) M hSeer hTree G_L_draw G_L_row G_L_command G_L_some_cells G_L_block G_L_statement 3).2
  have H_L_block := (ok_L_stbk (P := P) (w := w) (base := base) M hSeer hTree G_L_draw G_L_row G_L_command G_L_some_cells G_L_block G_L_statement 4).1
  refine fn_okP G_L_body.F sc_L_body (fun pl ds Q ⟨_, a, e, _⟩ => by rw [e]; rfl) fun cdv A outer s0 H E hr => ⟨_, _, (dss_cons (ds_setO (i := 5) sc_L_body.nd (df_lst (da_cons (de_var 1) (da_cons (de_var 2) (da_cons (de_sub (de_var 3) de_int) da_nil)))))
      (dss_cons (ds_set (i := 6) sc_L_body.nd (DF.v (df_lst (da_cons (de_callPP K 0 5 H_L_statement (hr.mono (by decide)) G_L_statement.g G_L_statement.F.kp G_L_statement.b (da_cons (de_var 4) da_nil)) da_nil))))
      (dss_one (ds_retF (df_cat (de_var 6) (de_callPP K 0 5 H_L_block (hr.mono (by decide)) G_L_block.g G_L_block.F.kp G_L_block.b (da_cons (de_var 4) (da_cons de_int da_nil)))))))), ?_⟩
  rintro pl ds Q ⟨hp, ⟨c, m, room⟩, rfl, ⟨hc, hm1, hm3, hr1, hr2⟩, q⟩
  dsimp only at hc hm1 hm3 hr1 hr2 q
  obtain ⟨r1, rfl⟩ : ∃ r1, room = r1 + 1 := ⟨room - 1, by omega⟩
  walk_at "wr"
  rw [show ((r1 + 1 : Nat) : Int) - 1 = ((r1 : Nat) : Int) by omega]
  rw [show D.int 0 = D.int ((0 : Nat) : Int) from rfl, show D.int 3 = D.int ((3 : Nat) : Int) from rfl]
  refine lst_app (t := 0) (room := r1) (d := 3) hp rfl hc ⟨hm1, hm3⟩ fun s pl room2 hsw hro hp => ?_
  refine ⟨flats_world _ _ _, ?_⟩
  walk_at "wr"
  refine lbk_app (t := 0) (room := room2) (d := 4) hp rfl (by omega) (by omega) hc ⟨hm1, hm3⟩ fun b pl room' r er hbl hbw hro2 hp => ?_
  refine ⟨flats_world _ _ _, ?_⟩
  rw [er]
  have hbl2 : (blD b).length ≤ 3 := by rw [blD_len]; exact hbl
  walk_at "wr"
  refine ⟨_, rfl, q (.f (blD (s :: b))) _ ⟨s :: b, rfl, by rw [List.length_cons]; omega, by unfold wfL; exact ⟨hsw, hbw⟩, by show Bk.cnt s + cntB b ≤ r1 + 1; omega⟩ hp⟩
theorem ok_L_bodies (M : Blt mg) (hSeer : seerB K = true) (hTree : P.given.tree = none) (G_L_draw : Gf K mg "_law_draw" s_L_draw ["_law_pool_here", "_law_many"]) (G_L_row : Gf K mg "_law_row" s_L_row ["_law_pool_here", "_law_cells"]) (G_L_command : Gf K mg "_law_command" s_L_command ["_law_pool_here", "_law_cells"]) (G_L_some_cells : Gf K mg "_law_some_cells" s_L_some_cells ["_law_pool_here", "_law_cells"]) (G_L_block : Gf K mg "_law_block" s_L_block ["_law_pool_here", "_law_world", "_law_tier", "_law_most"]) (G_L_statement : Gf K mg "_law_statement" s_L_statement ["_law_pool_here", "_law_world", "_law_tier"]) (G_L_body : Gf K mg "_law_body" s_L_body ["_law_pool_here", "_law_cells", "_law_many", "_law_room", "_law_tier"]) (G_L_bodies : Gf K mg "_law_bodies" s_L_bodies ["_law_pool_here", "_law_cells", "_law_many", "_law_room"]) : FnOk P w K mg base CX0 14 G_L_bodies.f G_L_bodies.fd ["_law_pool_here", "_law_cells", "_law_many", "_law_room"] (spP K spec_lbodies) := by
  have H_L_body := ok_L_body (P := P) (w := w) (base := base) M hSeer hTree G_L_draw G_L_row G_L_command G_L_some_cells G_L_block G_L_statement G_L_body
  refine fn_okP G_L_bodies.F sc_L_bodies (fun pl ds Q ⟨_, a, e, _⟩ => by rw [e]; rfl) fun cdv A outer s0 H E hr => ⟨_, _, (dss_one (ds_retF (df_lc (own := [("_law_k", 4)]) rfl sc_L_bodies.nd (di_range1 M.range (da_cons (de_var 2) da_nil)) (blkOk_by (by rfl)) (fun _ _ _ _ _ => (dg_name (i := 4) sc_L_bodies.nd)) (gin_name (by decide)) gmo_name (fun _ _ _ _ _ => dts_nil) (fun _ _ _ _ _ => (DF.v (df_callP K 0 H_L_body (hr.mono (by decide)) G_L_body.g G_L_body.F.kp G_L_body.b (da_cons (de_var 1) (da_cons (de_var 2) (da_cons (de_var 3) (da_cons de_int da_nil)))))))))), ?_⟩
  rintro pl ds Q ⟨hp, ⟨c, m, room⟩, rfl, ⟨hc, hm1, hm3, hr1, hr2⟩, q⟩
  dsimp only at hc hm1 hm3 hr1 hr2 q
  walk_at "wr"
  refine i_mapJ (n := (m : Int)) (fun i acc γ => ∃ pl bs, PoolP pl ∧ acc = blsD bs ∧ bs.length = i ∧ (∀ b ∈ bs, b.length ≤ 4 ∧ wfL c m 3 b ∧ cntB b ≤ room) ∧ γ = [.own true pl, .val (.int (c : Nat)), .val (.int (m : Nat)), .val (.int (room : Nat)), .any]) (by omega) ⟨pl, [], hp, rfl, rfl, (fun b hb => by cases hb), rfl⟩ ?_ ?_ ?_
  · rintro i acc γ ⟨pl, bs, hp, _, _, _, rfl⟩
    rfl
  · rintro i acc γ hi ⟨pl, bs, hp, rfl, hbl, hbs, rfl⟩
    walk_at "wr"
    refine ⟨hp, (c, m, room), rfl, ⟨hc, hm1, hm3, hr1, hr2⟩, fun r pl' ⟨b, e, hb⟩ hp => ?_⟩
    subst e
    walk_at "wr"
    refine ⟨pl', bs ++ [b], hp, by rw [blsD, blsD, List.map_append]; rfl, by rw [List.length_append, hbl]; rfl, fun x hx => ?_, rfl⟩
    rcases List.mem_append.mp hx with z | z
    · exact hbs x z
    · rw [List.mem_singleton.mp z]; exact hb
  · rintro acc γ ⟨pl, bs, hp, rfl, hbl, hbs, rfl⟩
    exact ⟨_, rfl, q _ _ ⟨bs, rfl, by rw [hbl]; simp, hbs⟩ hp⟩
end

/-! ### the law's comparison: each datum is the same as itself -/
abbrev s_L_same : Stmt := topS 42
theorem sc_L_same : FnScope ["_law_actual", "_law_due", "_law_k"] ["_law_actual", "_law_due"] (defScope s_L_same) := ⟨rfl, rfl, rfl, by decide +kernel, rfl, by decide +kernel, by decide +kernel⟩

section
variable {P : Program} {w : World} {K : PySem.W.Frag} {mg : Str → Option Value} {base : Heap}
theorem ok_L_same (M : Blt mg) (G_L_same : Gf K mg "_law_same" s_L_same ["_law_actual", "_law_due"]) : ∀ k, FnOk P w K mg base CX0 k G_L_same.f G_L_same.fd ["_law_actual", "_law_due"] (spV K (spec_L_same k)) := by
  intro k
  induction k with
  | zero => exact fn_none fun ds Q ⟨a, _, h, _⟩ => h
  | succ k IH =>
    refine fn_ok G_L_same.F sc_L_same (fun ds Q ⟨a, e, _⟩ => by rw [e]; rfl) fun cdv A outer s0 H E hr => ⟨_, _, (dss_cons (ds_if (dt_isN (de_var 1)) (dss_one (ds_ret (de_isN (de_var 0)))) dss_nil)
      (dss_cons (ds_if (DW.dt (dw_or (dt_tr K (de_isi K kit_B M.isinstance M.bool (by decide +kernel) (de_var 1))) (dw_or1 (dt_tr K (de_isi K kit_B M.isinstance M.bool (by decide +kernel) (de_var 0)))))) (dss_one (ds_ret (de_and (de_isi K kit_B M.isinstance M.bool (by decide +kernel) (de_var 1)) (de_and (de_isi K kit_B M.isinstance M.bool (by decide +kernel) (de_var 0)) (de_one (de_eq (de_var 0) (de_var 1))))))) dss_nil)
      (dss_cons (ds_if (dt_tr K (de_isi K kit_I M.isinstance M.int (by decide +kernel) (de_var 1))) (dss_one (ds_ret (de_and (de_isi K kit_I M.isinstance M.int (by decide +kernel) (de_var 0)) (de_one (de_eq (de_var 0) (de_var 1)))))) dss_nil)
      (dss_cons (ds_if (dt_tr K (de_isi K kit_S M.isinstance M.str (by decide +kernel) (de_var 1))) (dss_one (ds_ret (de_and (de_isi K kit_S M.isinstance M.str (by decide +kernel) (de_var 0)) (de_one (de_eq (de_var 0) (de_var 1)))))) dss_nil)
      (dss_cons (ds_if (DW.dt (dw_or (dt_ne (de_isi K kit_L M.isinstance M.list (by decide +kernel) (de_var 1)) (de_isi K kit_L M.isinstance M.list (by decide +kernel) (de_var 0))) (dw_or1 (dt_not (dt_tr K (de_isi2 K kit_L kit_U M.isinstance M.list M.tuple (by decide +kernel) (by decide +kernel) (de_var 0))))))) (dss_one (ds_ret de_bl)) dss_nil)
      (dss_cons (ds_if (dt_ne (de_callB cs_len call_len_seq M.len PySem.boot_len (da_cons (de_var 0) da_nil)) (de_callB cs_len call_len_seq M.len PySem.boot_len (da_cons (de_var 1) da_nil))) (dss_one (ds_ret de_bl)) dss_nil)
      (dss_one (ds_ret (de_eq (de_callB cs_len call_len_seq M.len PySem.boot_len (da_cons (DF.v (df_lc (own := [("_law_k", 2)]) rfl sc_L_same.nd (di_range1 M.range (da_cons (de_callB cs_len call_len_seq M.len PySem.boot_len (da_cons (de_var 1) da_nil)) da_nil)) (blkOk_by (by rfl)) (fun _ _ _ _ _ => (dg_name (i := 2) sc_L_same.nd)) (gin_name (by decide)) gmo_name (fun _ _ _ _ _ => (dts_one (dt_not (dt_tr K (de_call K IH hr G_L_same.g G_L_same.F.kp G_L_same.b (da_cons (de_ix K (de_var 0) (de_var 2)) (da_cons (de_ix K (de_var 1) (de_var 2)) da_nil))))))) (fun _ _ _ _ _ => (de_var 2)))) da_nil)) de_int))))))))), ?_⟩
    rintro ds Q ⟨d, rfl, hd, q⟩
    have q1 : Q (.d (.bl true)) := q _ rfl
    clear q
    cases d with
    | non => walk_at "wp"; exact q1
    | bl b => walk_at "wp"; rw [beqB_self]; exact q1
    | int i => walk_at "wp"; rw [decide_eq_true rfl]; exact q1
    | str s => walk_at "wp"; rw [decide_eq_true rfl]; exact q1
    | obj C fs => exact hd.elim
    | emp => exact hd.elim
    | ref p => exact hd.elim
    | lst ds =>
      obtain ⟨hz, hd⟩ := hd
      walk_at "wp"
      refine i_iteN (fun h => absurd rfl h) (fun _ => ?_)
      walk_at "wp"
      refine i_none ?_ ?_ (fun i d hi R hR => ?_) ?_
      · rw [rngD_len]; omega
      · rfl
      · obtain ⟨rfl, hi⟩ := rng0_inv hi
        obtain ⟨x, hx⟩ : ∃ x, ds[i]? = some x := ⟨_, List.getElem?_eq_getElem (by omega)⟩
        walk_at "wp"
        refine i_ixL (atI_of hx) ?_
        walk_at "wp"
        refine i_ixL (atI_of hx) ?_
        walk_at "wp"
        refine ⟨x, rfl, hd x (List.mem_of_getElem? hx), fun r hr => ?_⟩
        subst hr
        walk_at "wp"
        exact hR _ rfl
      · walk_at "wp"
        exact q1
    | tup ds =>
      obtain ⟨hz, hd⟩ := hd
      walk_at "wp"
      refine i_iteN (fun h => absurd rfl h) (fun _ => ?_)
      walk_at "wp"
      refine i_none ?_ ?_ (fun i d hi R hR => ?_) ?_
      · rw [rngD_len]; omega
      · rfl
      · obtain ⟨rfl, hi⟩ := rng0_inv hi
        obtain ⟨x, hx⟩ : ∃ x, ds[i]? = some x := ⟨_, List.getElem?_eq_getElem (by omega)⟩
        walk_at "wp"
        refine i_ixT (atI_of hx) ?_
        walk_at "wp"
        refine i_ixT (atI_of hx) ?_
        walk_at "wp"
        refine ⟨x, rfl, hd x (List.mem_of_getElem? hx), fun r hr => ?_⟩
        subst hr
        walk_at "wp"
        exact hR _ rfl
      · walk_at "wp"
        exact q1
end

/-! ### nested data whose lists stand in boxes -/
mutual
/-- e tells d: every list of d stands in a box of its own, at the addresses -/
def BxT (L : Bxs) : D → D → List Addr → Prop
  | .lst ds, e, as => ∃ p es as', e = .ref p ∧ as = p :: as' ∧ L p = some (.lst es) ∧ BxTs L ds es as'
  | .tup ds, e, as => ∃ es, e = .tup es ∧ BxTs L ds es as
  | .non, e, as => e = .non ∧ as = []
  | .bl b, e, as => e = .bl b ∧ as = []
  | .int i, e, as => e = .int i ∧ as = []
  | .str s, e, as => e = .str s ∧ as = []
  | .obj _ _, _, _ => False
  | .emp, _, _ => False
  | .ref _, _, _ => False
def BxTs (L : Bxs) : List D → List D → List Addr → Prop
  | [], es, as => es = [] ∧ as = []
  | d :: ds, es, as => ∃ e es' a b, es = e :: es' ∧ as = a ++ b ∧ BxT L d e a ∧ BxTs L ds es' b
end
mutual
theorem BxT.mono {L L' : Bxs} : ∀ (d e : D) (as : List Addr), (∀ p ∈ as, L' p = L p) → BxT L d e as → BxT L' d e as
  | .lst ds, e, as, h, k => by
    unfold BxT at k ⊢
    obtain ⟨p, es, as', rfl, rfl, l, k⟩ := k
    exact ⟨p, es, as', rfl, rfl, (h p (List.mem_cons_self ..)).trans l, BxTs.mono ds es as' (fun q hq => h q (List.mem_cons_of_mem _ hq)) k⟩
  | .tup ds, e, as, h, k => by
    unfold BxT at k ⊢
    obtain ⟨es, rfl, k⟩ := k
    exact ⟨es, rfl, BxTs.mono ds es as h k⟩
  | .non, e, as, h, k => by unfold BxT at k ⊢; exact k
  | .bl b, e, as, h, k => by unfold BxT at k ⊢; exact k
  | .int i, e, as, h, k => by unfold BxT at k ⊢; exact k
  | .str s, e, as, h, k => by unfold BxT at k ⊢; exact k
  | .obj _ _, e, as, h, k => by unfold BxT at k; exact k.elim
  | .emp, e, as, h, k => by unfold BxT at k; exact k.elim
  | .ref _, e, as, h, k => by unfold BxT at k; exact k.elim
theorem BxTs.mono {L L' : Bxs} : ∀ (ds es : List D) (as : List Addr), (∀ p ∈ as, L' p = L p) → BxTs L ds es as → BxTs L' ds es as
  | [], es, as, h, k => by unfold BxTs at k ⊢; exact k
  | d :: ds, es, as, h, k => by
    unfold BxTs at k ⊢
    obtain ⟨e, es', a, b, rfl, rfl, k1, k2⟩ := k
    exact ⟨e, es', a, b, rfl, rfl, BxT.mono d e a (fun p hp => h p (List.mem_append_left _ hp)) k1, BxTs.mono ds es' b (fun p hp => h p (List.mem_append_right _ hp)) k2⟩
end
theorem BxTs.len {L : Bxs} : ∀ {ds es : List D} {as : List Addr}, BxTs L ds es as → es.length = ds.length
  | [], es, as, k => by unfold BxTs at k; rw [k.1]
  | d :: ds, es, as, k => by
    unfold BxTs at k
    obtain ⟨e, es', a, b, rfl, rfl, k1, k2⟩ := k
    rw [List.length_cons, List.length_cons, BxTs.len k2]
theorem BxTs.app {L : Bxs} : ∀ {ds es ds' es' : List D} {as bs : List Addr}, BxTs L ds es as → BxTs L ds' es' bs → BxTs L (ds ++ ds') (es ++ es') (as ++ bs)
  | [], es, ds', es', as, bs, k, k' => by
    unfold BxTs at k
    obtain ⟨rfl, rfl⟩ := k
    exact k'
  | d :: ds, es, ds', es', as, bs, k, k' => by
    unfold BxTs at k
    obtain ⟨e, es1, a, b, rfl, rfl, k1, k2⟩ := k
    show BxTs L (d :: (ds ++ ds')) (e :: (es1 ++ es')) _
    unfold BxTs
    exact ⟨e, es1 ++ es', a, b ++ bs, rfl, List.append_assoc .., k1, k2.app k'⟩
theorem BxTs.one {L : Bxs} {d e : D} {a : List Addr} (k : BxT L d e a) : BxTs L [d] [e] a := by
  unfold BxTs
  exact ⟨e, [], a, [], rfl, (List.append_nil a).symm, k, by unfold BxTs; exact ⟨rfl, rfl⟩⟩
theorem BxTs.nil {L : Bxs} : BxTs L [] [] [] := by unfold BxTs; exact ⟨rfl, rfl⟩
theorem BxTs.snoc {L : Bxs} {ds es : List D} {as a : List Addr} {d e : D} (k : BxTs L ds es as) (h : BxT L d e a) : BxTs L (ds ++ [d]) (es ++ [e]) (as ++ a) := k.app (.one h)
theorem BxT.lst {L : Bxs} {ds es : List D} {as : List Addr} {p : Addr} (l : L p = some (.lst es)) (k : BxTs L ds es as) : BxT L (.lst ds) (.ref p) (p :: as) := by
  unfold BxT
  exact ⟨p, es, as, rfl, rfl, l, k⟩
theorem BxT.tup {L : Bxs} {ds es : List D} {as : List Addr} (k : BxTs L ds es as) : BxT L (.tup ds) (.tup es) as := by
  unfold BxT
  exact ⟨es, rfl, k⟩
theorem BxT.lst_inv {L : Bxs} {ds : List D} {e : D} {as : List Addr} (k : BxT L (.lst ds) e as) : ∃ p es as', e = .ref p ∧ as = p :: as' ∧ L p = some (.lst es) ∧ BxTs L ds es as' := by
  unfold BxT at k
  exact k
theorem BxT.tup_inv {L : Bxs} {ds : List D} {e : D} {as : List Addr} (k : BxT L (.tup ds) e as) : ∃ es, e = .tup es ∧ BxTs L ds es as := by
  unfold BxT at k
  exact k
theorem BxTs.cons_inv {L : Bxs} {d : D} {ds es : List D} {as : List Addr} (k : BxTs L (d :: ds) es as) : ∃ e es' a b, es = e :: es' ∧ as = a ++ b ∧ BxT L d e a ∧ BxTs L ds es' b := by
  unfold BxTs at k
  exact k
theorem BxTs.nil_inv {L : Bxs} {es : List D} {as : List Addr} (k : BxTs L [] es as) : es = [] ∧ as = [] := by
  unfold BxTs at k
  exact k
theorem BxTs.ints {L : Bxs} : ∀ r : List Int, BxTs L (intL r) (intL r) []
  | [] => .nil
  | i :: r => by
    show BxTs L (.int i :: intL r) (.int i :: intL r) []
    unfold BxTs
    exact ⟨.int i, intL r, [], [], rfl, rfl, by unfold BxT; exact ⟨rfl, rfl⟩, BxTs.ints r⟩
theorem BxT.ints {L : Bxs} {r : List Int} {p : Addr} (l : L p = some (.lst (intL r))) : BxT L (.lst (intL r)) (.ref p) [p] := BxT.lst l (BxTs.ints r)
theorem subN_at {L : Bxs} {n : Nat} {p : Addr} {es : List D} (l : L p = some (.lst es)) : subN (n + 1) L p = some (.lst (subXs (subN n L) es)) := by
  show (match L p with
    | some (Bx.lst es) => some (Bx.lst (subXs (subN n L) es))
    | b => b) = _
  rw [l]
mutual
/-- lent, the datum reads as what it tells -/
theorem BxT.sub {L : Bxs} : ∀ (n : Nat) (d e : D) (as : List Addr), Dep n d → BxT L d e as → subX (subN n L) e = d
  | 0, d, e, as, h, k => h.elim
  | n + 1, .lst ds, e, as, h, k => by
    obtain ⟨p, es, as', rfl, rfl, l, k⟩ := k.lst_inv
    unfold subX
    rw [subN_at l]
    show D.lst (subXs (subN n L) es) = _
    rw [BxTs.sub n ds es as' h.2 k]
  | n + 1, .tup ds, e, as, h, k => by
    obtain ⟨es, rfl, k2⟩ := k.tup_inv
    unfold subX
    rw [BxTs.sub (n + 1) ds es as (fun x hx => (h.2 x hx).mono) k2]
  | n + 1, .non, e, as, h, k => by unfold BxT at k; rw [k.1]; unfold subX; rfl
  | n + 1, .bl b, e, as, h, k => by unfold BxT at k; rw [k.1]; unfold subX; rfl
  | n + 1, .int i, e, as, h, k => by unfold BxT at k; rw [k.1]; unfold subX; rfl
  | n + 1, .str s, e, as, h, k => by unfold BxT at k; rw [k.1]; unfold subX; rfl
  | n + 1, .obj _ _, e, as, h, k => by unfold BxT at k; exact k.elim
  | n + 1, .emp, e, as, h, k => by unfold BxT at k; exact k.elim
  | n + 1, .ref _, e, as, h, k => by unfold BxT at k; exact k.elim
theorem BxTs.sub {L : Bxs} : ∀ (n : Nat) (ds es : List D) (as : List Addr), (∀ d ∈ ds, Dep n d) → BxTs L ds es as → subXs (subN n L) es = ds
  | n, [], es, as, h, k => by rw [k.nil_inv.1]; unfold subXs; rfl
  | n, d :: ds, es, as, h, k => by
    obtain ⟨e, es', a, b, rfl, rfl, k1, k2⟩ := k.cons_inv
    unfold subXs
    rw [BxT.sub n d e a (h d (List.mem_cons_self ..)) k1, BxTs.sub n ds es' b (fun x hx => h x (List.mem_cons_of_mem _ hx)) k2]
end
/-- told in new boxes -/
structure NewT (L L' : Bxs) (d e : D) (as : List Addr) : Prop where
  bx : BxT L' d e as
  nd : as.Nodup
  nw : ∀ p ∈ as, L p = none
  kp : ∀ p y, L p = some y → L' p = some y
structure NewTs (L L' : Bxs) (ds es : List D) (as : List Addr) : Prop where
  bx : BxTs L' ds es as
  nd : as.Nodup
  nw : ∀ p ∈ as, L p = none
  kp : ∀ p y, L p = some y → L' p = some y
theorem NewTs.nil {L : Bxs} : NewTs L L [] [] [] := ⟨BxTs.nil, List.nodup_nil, fun p h => (by cases h), fun p y e => e⟩
theorem BxT.at {L : Bxs} : ∀ (d e : D) (as : List Addr), BxT L d e as → ∀ p ∈ as, ∃ y, L p = some y := by
  have key : ∀ (n : Nat), (∀ (d e : D) (as : List Addr), sizeOf d < n → BxT L d e as → ∀ p ∈ as, ∃ y, L p = some y) ∧ (∀ (ds es : List D) (as : List Addr), sizeOf ds < n → BxTs L ds es as → ∀ p ∈ as, ∃ y, L p = some y) := by
    intro n
    induction n with
    | zero => exact ⟨fun d e as h => absurd h (Nat.not_lt_zero _), fun ds es as h => absurd h (Nat.not_lt_zero _)⟩
    | succ n ih =>
      refine ⟨fun d e as h k p hp => ?_, fun ds es as h k p hp => ?_⟩
      · cases d with
        | lst ds =>
          obtain ⟨q, es, as', rfl, rfl, l, k⟩ := k.lst_inv
          rcases List.mem_cons.mp hp with rfl | hp
          · exact ⟨_, l⟩
          · exact ih.2 ds es as' (by simp at h; omega) k p hp
        | tup ds =>
          obtain ⟨es, rfl, k2⟩ := k.tup_inv
          exact ih.2 ds es as (by simp at h; omega) k2 p hp
        | _ =>
          unfold BxT at k
          first | exact k.elim | (rw [k.2] at hp; cases hp)
      · cases ds with
        | nil => rw [k.nil_inv.2] at hp; cases hp
        | cons d ds =>
          obtain ⟨e, es', a, b, rfl, rfl, k1, k2⟩ := k.cons_inv
          rcases List.mem_append.mp hp with hp | hp
          · exact ih.1 d e a (by simp at h; omega) k1 p hp
          · exact ih.2 ds es' b (by simp at h; omega) k2 p hp
  exact fun d e as k => (key (sizeOf d + 1)).1 d e as (Nat.lt_succ_self _) k
theorem BxTs.at {L : Bxs} {ds es : List D} {as : List Addr} (k : BxTs L ds es as) {p : Addr} (hp : p ∈ as) : ∃ y, L p = some y := BxT.at (.tup ds) (.tup es) as (BxT.tup k) p hp
theorem NewTs.snoc {L L1 L2 : Bxs} {ds es : List D} {as a : List Addr} {d e : D} (h : NewTs L L1 ds es as) (k : NewT L1 L2 d e a) : NewTs L L2 (ds ++ [d]) (es ++ [e]) (as ++ a) := by
  refine ⟨BxTs.snoc (BxTs.mono ds es as (fun p hp => ?_) h.bx) k.bx, List.nodup_append.mpr ⟨h.nd, k.nd, fun x hx y hy z => ?_⟩, fun p hp => ?_, fun p y e => k.kp p y (h.kp p y e)⟩
  · obtain ⟨y, e⟩ := h.bx.at hp
    rw [e, k.kp p y e]
  · subst z
    obtain ⟨y, e⟩ := h.bx.at hx
    rw [k.nw x hy] at e
    cases e
  · rcases List.mem_append.mp hp with hp | hp
    · exact h.nw p hp
    · cases e : L p with
      | none => rfl
      | some y => have := h.kp p y e; rw [k.nw p hp] at this; cases this
theorem NewTs.tup {L L' : Bxs} {ds es : List D} {as : List Addr} (h : NewTs L L' ds es as) : NewT L L' (.tup ds) (.tup es) as := ⟨BxT.tup h.bx, h.nd, h.nw, h.kp⟩
theorem NewTs.lst {L L' : Bxs} {ds es : List D} {as : List Addr} {p : Addr} (h : NewTs L L' ds es as) (hp : L' p = none) : NewT L (updB L' p (.lst es)) (.lst ds) (.ref p) (p :: as) := by
  have hne : ∀ q ∈ as, q ≠ p := fun q hq z => by
    obtain ⟨y, e⟩ := h.bx.at hq
    rw [z, hp] at e
    cases e
  refine ⟨BxT.lst updB_same (BxTs.mono ds es as (fun q hq => updB_ne (hne q hq)) h.bx), List.nodup_cons.mpr ⟨fun z => hne p z rfl, h.nd⟩, fun q hq => ?_, fun q y e => ?_⟩
  · rcases List.mem_cons.mp hq with rfl | hq
    · cases e : L q with
      | none => rfl
      | some y => have := h.kp q y e; rw [hp] at this; cases this
    · exact h.nw q hq
  · have e2 := h.kp q y e
    rw [updB_ne (fun z => by rw [z, hp] at e2; cases e2)]
    exact e2
theorem NewT.flat {L : Bxs} {d : D} (h : BxT L d d []) : NewT L L d d [] := ⟨h, List.nodup_nil, fun p h => (by cases h), fun p y e => e⟩
theorem BxT.str {L : Bxs} {s : Str} : BxT L (.str s) (.str s) [] := by unfold BxT; exact ⟨rfl, rfl⟩
theorem BxT.int {L : Bxs} {i : Int} : BxT L (.int i) (.int i) [] := by unfold BxT; exact ⟨rfl, rfl⟩
/-! every list longer by a 7 -/
mutual
def lgr : D → D
  | .lst ds => .lst (lgrs ds ++ [.int 7])
  | .tup ds => .tup (lgrs ds)
  | .non => .non
  | .bl b => .bl b
  | .int i => .int i
  | .str s => .str s
  | .obj C fs => .obj C fs
  | .emp => .emp
  | .ref p => .ref p
def lgrs : List D → List D
  | [] => []
  | d :: r => lgr d :: lgrs r
end
theorem lgrs_map : ∀ ds : List D, lgrs ds = ds.map lgr
  | [] => rfl
  | d :: r => by rw [lgrs, lgrs_map r]; rfl
/-- data less deep than n, of few items -/
def Sd : Nat → D → Prop
  | 0, _ => False
  | n + 1, .lst ds => ds.length ≤ 1000 ∧ ∀ d ∈ ds, Sd n d
  | n + 1, .tup ds => ds.length ≤ 1000 ∧ ∀ d ∈ ds, Sd n d
  | _ + 1, .obj _ _ => False
  | _ + 1, .emp => False
  | _ + 1, .ref _ => False
  | _ + 1, _ => True
theorem Sd.dep : ∀ {n : Nat} {d : D}, Sd n d → Dep n d
  | 0, d, h => h.elim
  | n + 1, .lst ds, h => ⟨Nat.le_trans h.1 (by decide), fun x hx => Sd.dep (h.2 x hx)⟩
  | n + 1, .tup ds, h => ⟨Nat.le_trans h.1 (by decide), fun x hx => Sd.dep (h.2 x hx)⟩
  | n + 1, .non, h => trivial
  | n + 1, .bl _, h => trivial
  | n + 1, .int _, h => trivial
  | n + 1, .str _, h => trivial
  | n + 1, .obj _ _, h => h.elim
  | n + 1, .emp, h => h.elim
  | n + 1, .ref _, h => h.elim
theorem Sd.mono : ∀ {n : Nat} {d : D}, Sd n d → Sd (n + 1) d
  | 0, d, h => h.elim
  | n + 1, .lst ds, h => ⟨h.1, fun x hx => Sd.mono (h.2 x hx)⟩
  | n + 1, .tup ds, h => ⟨h.1, fun x hx => Sd.mono (h.2 x hx)⟩
  | n + 1, .non, h => trivial
  | n + 1, .bl _, h => trivial
  | n + 1, .int _, h => trivial
  | n + 1, .str _, h => trivial
  | n + 1, .obj _ _, h => h.elim
  | n + 1, .emp, h => h.elim
  | n + 1, .ref _, h => h.elim
theorem Sd.le {n m : Nat} (h : n ≤ m) {d : D} (k : Sd n d) : Sd m d := by
  induction h with
  | refl => exact k
  | step _ ih => exact ih.mono
theorem dep_lgr : ∀ {n : Nat} {d : D}, Sd n d → Dep (n + 1) (lgr d)
  | 0, d, h => h.elim
  | n + 1, .lst ds, h => by
    unfold lgr
    refine ⟨?_, fun x hx => ?_⟩
    · rw [List.length_append, lgrs_map, List.length_map]
      have := h.1
      show ds.length + 1 ≤ 100000
      omega
    · rcases List.mem_append.mp hx with hx | hx
      · rw [lgrs_map] at hx
        obtain ⟨y, hy, rfl⟩ := List.mem_map.mp hx
        exact dep_lgr (h.2 y hy)
      · rw [List.mem_singleton.mp hx]
        trivial
  | n + 1, .tup ds, h => by
    unfold lgr
    refine ⟨by rw [lgrs_map, List.length_map]; exact Nat.le_trans h.1 (by decide), fun x hx => ?_⟩
    rw [lgrs_map] at hx
    obtain ⟨y, hy, rfl⟩ := List.mem_map.mp hx
    exact dep_lgr (h.2 y hy)
  | n + 1, .non, h => trivial
  | n + 1, .bl _, h => trivial
  | n + 1, .int _, h => trivial
  | n + 1, .str _, h => trivial
  | n + 1, .obj _ _, h => h.elim
  | n + 1, .emp, h => h.elim
  | n + 1, .ref _, h => h.elim
/-- the first i of the items spoiled -/
def SpJ (L : Bxs) (ds es : List D) (as : List Addr) (i : Nat) (L' : Bxs) : Prop := ∃ a1 a2, as = a1 ++ a2 ∧ BxTs L' (lgrs (ds.take i)) (es.take i) a1 ∧ BxTs L' (ds.drop i) (es.drop i) a2 ∧ ∀ p, p ∉ as → L' p = L p
theorem SpJ.zero {L : Bxs} {ds es : List D} {as : List Addr} (k : BxTs L ds es as) : SpJ L ds es as 0 L := ⟨[], as, rfl, .nil, k, fun p _ => rfl⟩
theorem SpJ.step {L L' : Bxs} {ds es : List D} {as : List Addr} {i : Nat} {e : D} (j : SpJ L ds es as i L') (hn : as.Nodup) (he : es[i]? = some e) :
    ∃ d a, ds[i]? = some d ∧ BxT L' d e a ∧ a.Nodup ∧ (∀ p ∈ a, p ∈ as) ∧ ∀ L2, BxT L2 (lgr d) e a → (∀ p, p ∉ a → L2 p = L' p) → SpJ L ds es as (i + 1) L2 := by
  obtain ⟨a1, a2, rfl, k1, k2, fr⟩ := j
  obtain ⟨hi, ei⟩ := List.getElem?_eq_some_iff.mp he
  have ed : es.drop i = e :: es.drop (i + 1) := by rw [List.drop_eq_getElem_cons hi, ei]
  rw [ed] at k2
  cases hd : ds.drop i with
  | nil =>
    rw [hd] at k2
    cases k2.nil_inv.1
  | cons d ds' =>
    rw [hd] at k2
    obtain ⟨e', es', a, b, e1, rfl, k3, k4⟩ := k2.cons_inv
    cases e1
    have hdi : ds[i]? = some d := by
      have := List.getElem?_drop (xs := ds) (i := i) (j := 0)
      rw [hd] at this
      exact this.symm
    obtain ⟨hdl, edi⟩ := List.getElem?_eq_some_iff.mp hdi
    have hd' : ds' = ds.drop (i + 1) := by
      have := List.drop_eq_getElem_cons hdl
      rw [hd] at this
      cases this
      rfl
    have nd := List.nodup_append.mp hn
    have nd2 := List.nodup_append.mp nd.2.1
    refine ⟨d, a, hdi, k3, nd2.1, fun p hp => List.mem_append_right _ (List.mem_append_left _ hp), fun L2 h1 h2 => ?_⟩
    refine ⟨a1 ++ a, b, (List.append_assoc ..).symm, ?_, ?_, fun p hp => ?_⟩
    · have et : lgrs (ds.take (i + 1)) = lgrs (ds.take i) ++ [lgr d] := by rw [lgrs_map, lgrs_map, List.take_add_one, hdi, List.map_append]; rfl
      have ee : es.take (i + 1) = es.take i ++ [e] := by rw [List.take_add_one, he]; rfl
      rw [et, ee]
      exact BxTs.snoc (BxTs.mono _ _ _ (fun p hp => h2 p fun z => nd.2.2 p hp p (List.mem_append_left _ z) rfl) k1) h1
    · rw [← hd']
      exact BxTs.mono _ _ _ (fun p hp => h2 p fun z => nd2.2.2 p z p hp rfl) k4
    · exact (h2 p fun z => hp (List.mem_append_right _ (List.mem_append_left _ z))).trans (fr p hp)
theorem SpJ.done {L L' : Bxs} {ds es : List D} {as : List Addr} (j : SpJ L ds es as es.length L') (hl : es.length = ds.length) : BxTs L' (lgrs ds) es as ∧ ∀ p, p ∉ as → L' p = L p := by
  obtain ⟨a1, a2, rfl, k1, k2, fr⟩ := j
  rw [List.take_length, hl, List.take_length] at k1
  rw [List.drop_length] at k2
  have e2 : a2 = [] := by
    cases h : ds.drop es.length with
    | nil => rw [h] at k2; exact k2.nil_inv.2
    | cons d r => rw [hl, List.drop_length] at h; cases h
  rw [e2, List.append_nil]
  exact ⟨k1, fun p hp => fr p (by rw [e2, List.append_nil]; exact hp)⟩
/-- what stood still stands -/
def ExtB (L L' : Bxs) : Prop := ∀ p y, L p = some y → L' p = some y
theorem ExtB.refl {L : Bxs} : ExtB L L := fun _ _ e => e
theorem ExtB.trans {L L1 L2 : Bxs} (h : ExtB L L1) (k : ExtB L1 L2) : ExtB L L2 := fun p y e => k p y (h p y e)
theorem ExtB.new {L : Bxs} {p : Addr} {b : Bx} (h : L p = none) : ExtB L (updB L p b) := fun q y e => (updB_ne fun z => by rw [z, h] at e; cases e).trans e
theorem ExtB.no {L L' : Bxs} {p : Addr} (h : ExtB L L') (k : L' p = none) : L p = none := by
  cases e : L p with
  | none => rfl
  | some y => rw [h p y e] at k; cases k
theorem BxT.ext {L L' : Bxs} {d e : D} {as : List Addr} (k : BxT L d e as) (h : ExtB L L') : BxT L' d e as := BxT.mono d e as (fun p hp => by
  obtain ⟨y, e⟩ := BxT.at d _ as k p hp
  rw [e, h p y e]) k
theorem BxTs.ext {L L' : Bxs} {ds es : List D} {as : List Addr} (k : BxTs L ds es as) (h : ExtB L L') : BxTs L' ds es as := BxTs.mono ds es as (fun p hp => by
  obtain ⟨y, e⟩ := k.at hp
  rw [e, h p y e]) k
theorem BxT.nin {L : Bxs} {d e : D} {as : List Addr} {p : Addr} (k : BxT L d e as) (h : L p = none) : p ∉ as := fun z => by
  obtain ⟨y, e⟩ := BxT.at d _ as k p z
  rw [h] at e
  cases e
theorem BxTs.nin {L : Bxs} {ds es : List D} {as : List Addr} {p : Addr} (k : BxTs L ds es as) (h : L p = none) : p ∉ as := fun z => by
  obtain ⟨y, e⟩ := k.at z
  rw [h] at e
  cases e
theorem BxTs.cons {L : Bxs} {d e : D} {ds es : List D} {a as : List Addr} (h : BxT L d e a) (k : BxTs L ds es as) : BxTs L (d :: ds) (e :: es) (a ++ as) := by
  unfold BxTs
  exact ⟨e, es, a, as, rfl, rfl, h, k⟩
theorem BxTs.conS {L : Bxs} {s : Str} {ds es : List D} {as : List Addr} (k : BxTs L ds es as) : BxTs L (.str s :: ds) (.str s :: es) as := BxTs.cons (a := []) BxT.str k
theorem BxTs.conI {L : Bxs} {i : Int} {ds es : List D} {as : List Addr} (k : BxTs L ds es as) : BxTs L (.int i :: ds) (.int i :: es) as := BxTs.cons (a := []) BxT.int k
theorem BxTs.conR {L : Bxs} {r : List Int} {p : Addr} {ds es : List D} {as : List Addr} (l : L p = some (.lst (intL r))) (k : BxTs L ds es as) : BxTs L (.lst (intL r) :: ds) (.ref p :: es) (p :: as) := BxTs.cons (a := [p]) (BxT.ints l) k
theorem BxTs.item {L : Bxs} : ∀ {ds es : List D} {as : List Addr} {i : Nat} {d e : D}, BxTs L ds es as → ds[i]? = some d → es[i]? = some e → ∃ a, BxT L d e a
  | [], es, as, i, d, e, k, h1, h2 => by cases h1
  | d0 :: ds, es, as, 0, d, e, k, h1, h2 => by
    obtain ⟨e0, es', a, b, rfl, rfl, k1, k2⟩ := k.cons_inv
    cases h1
    cases h2
    exact ⟨a, k1⟩
  | d0 :: ds, es, as, i + 1, d, e, k, h1, h2 => by
    obtain ⟨e0, es', a, b, rfl, rfl, k1, k2⟩ := k.cons_inv
    exact k2.item (i := i) h1 h2
theorem BxT.str_inv {L : Bxs} {s : Str} {e : D} {a : List Addr} (k : BxT L (.str s) e a) : e = .str s ∧ a = [] := by unfold BxT at k; exact k
theorem BxT.int_inv {L : Bxs} {i : Int} {e : D} {a : List Addr} (k : BxT L (.int i) e a) : e = .int i ∧ a = [] := by unfold BxT at k; exact k
theorem BxTs.ints_inv {L : Bxs} : ∀ {r : List Int} {es : List D} {as : List Addr}, BxTs L (intL r) es as → es = intL r
  | [], es, as, k => k.nil_inv.1
  | i :: r, es, as, k => by
    obtain ⟨e, es', a, b, rfl, rfl, k1, k2⟩ := BxTs.cons_inv (d := .int i) (ds := intL r) k
    rw [k1.int_inv.1, k2.ints_inv]
    rfl
theorem BxT.ints_inv {L : Bxs} {r : List Int} {e : D} {as : List Addr} (k : BxT L (.lst (intL r)) e as) : ∃ p, e = .ref p ∧ L p = some (.lst (intL r)) := by
  obtain ⟨p, es, as', rfl, rfl, l, k⟩ := k.lst_inv
  rw [k.ints_inv] at l
  exact ⟨p, rfl, l⟩
/-- a comprehension over told items -/
theorem i_lcBm {α : Type} {h : Nat} {d : D} {xs : List α} {es : List D} {vs : List Nat} {γ : List Sl} {wg : WG} {we : WE} {QF : List D → List Sl → Prop} (g : α → D) (o : OnIt h d es γ) (hl : es.length = xs.length) (hz : xs.length ≤ 100000) (ha : anyAt γ vs = true)
    (hh : ∀ (i : Nat) (x : α) (e : D), xs[i]? = some x → es[i]? = some e → ∀ R : D → List Sl → Prop, (∀ γ4, wipeG γ4 vs = γ → R (g x) γ4) → wg e γ fun γ2 => we γ2 R) (q : QF (xs.map g) γ) : LcB h d γ wg we vs QF := by
  refine ⟨es, o, by rw [hl]; exact smallN hz, anyAt_ok ha, fun i acc γ' => γ' = γ ∧ acc = (xs.take i).map g, ⟨rfl, rfl⟩, ?_, ?_⟩
  · rintro i acc γ' e he ⟨rfl, rfl⟩
    have hi : i < xs.length := by rw [← hl]; exact (List.getElem?_eq_some_iff.mp he).1
    have hx : xs[i]? = some xs[i] := List.getElem?_eq_getElem hi
    refine ⟨o, anyAt_ok ha, ?_⟩
    refine hh i xs[i] e hx he (fun y γ4 => wipeG γ4 vs = γ' ∧ (xs.take i).map g ++ [y] = (xs.take (i + 1)).map g) (fun γ4 e => ⟨e, ?_⟩)
    rw [List.take_add_one, hx, List.map_append]
    rfl
  · rintro acc γ' ⟨rfl, rfl⟩
    refine ⟨o, anyAt_ok ha, ?_⟩
    rw [hl, List.take_length]
    exact q

/-! ### how deep statements are -/
open Bk
theorem sdepA_nil {k : Nat} : ∀ d ∈ ([] : List D), Sd k d := fun d hd => by cases hd
theorem sdepA_cons {k : Nat} {x : D} {ds : List D} (h : Sd k x) (r : ∀ d ∈ ds, Sd k d) : ∀ d ∈ x :: ds, Sd k d := fun d hd => by
  rcases List.mem_cons.mp hd with z | z
  · rw [z]; exact h
  · exact r d z
theorem sdepL {k : Nat} {ds : List D} (h : ds.length ≤ 1000) (r : ∀ d ∈ ds, Sd k d) : Sd (k + 1) (.lst ds) := ⟨h, r⟩
theorem sdepT {k : Nat} {ds : List D} (h : ds.length ≤ 1000) (r : ∀ d ∈ ds, Sd k d) : Sd (k + 1) (.tup ds) := ⟨h, r⟩
theorem sdepI {k : Nat} {r : List Int} (h : r.length ≤ 1000) : Sd (k + 2) (.lst (r.map D.int)) := sdepL (by rw [List.length_map]; omega) fun d hd => by
  obtain ⟨i, _, rfl⟩ := List.mem_map.mp hd
  trivial
theorem sblD_small {b : List Sm} (h : b.length ≤ 8) : (blD b).length ≤ 1000 := by rw [blD_len]; omega
mutual
theorem sdep_stD {c m : Nat} (hc : c ≤ 3) : ∀ {k : Nat} (s : Sm), wf c m k s → Sd (3 * dep s + 3) (stD s)
  | k, .set i r, h => by
    unfold wf at h
    refine Sd.le (n := 3) (by omega) (sdepT (Nat.le_of_ble_eq_true rfl) (sdepA_cons trivial (sdepA_cons trivial (sdepA_cons (sdepI ?_) sdepA_nil))))
    have := h.2.1; omega
  | k, .carry r, h => by
    unfold wf at h
    refine Sd.le (n := 3) (by omega) (sdepT (Nat.le_of_ble_eq_true rfl) (sdepA_cons trivial (sdepA_cons (sdepI ?_) sdepA_nil)))
    have := h.1; omega
  | k, .end_ b, h => Sd.le (n := 2) (by omega) (sdepT (Nat.le_of_ble_eq_true rfl) (sdepA_cons trivial (sdepA_cons trivial sdepA_nil)))
  | k, .keep cs b, h => by
    unfold wf at h
    unfold dep
    have h1 := sdepL (sblD_small h.2.2.1) (sdep_all hc b h.2.2.2)
    have h2 := h.2.1.len
    exact Sd.le (n := 3 * depB b + 6) (by omega) (sdepT (Nat.le_of_ble_eq_true rfl) (sdepA_cons trivial (sdepA_cons (sdepI (by omega)) (sdepA_cons (Sd.le (by omega) h1) sdepA_nil))))
  | k, .again b, h => by
    unfold wf at h
    unfold dep
    have h1 := sdepL (sblD_small h.2.1) (sdep_all hc b h.2.2)
    exact Sd.le (n := 3 * depB b + 6) (by omega) (sdepT (Nat.le_of_ble_eq_true rfl) (sdepA_cons trivial (sdepA_cons (Sd.le (by omega) h1) sdepA_nil)))
  | k, .either a b, h => by
    unfold wf at h
    unfold dep
    have h1 := sdepL (sblD_small h.2.1.1) (sdep_all hc a h.2.1.2)
    have h2 := sdepL (sblD_small h.2.2.1) (sdep_all hc b h.2.2.2)
    exact Sd.le (n := 3 * max (depB a) (depB b) + 6) (by omega) (sdepT (Nat.le_of_ble_eq_true rfl) (sdepA_cons trivial (sdepA_cons (Sd.le (by omega) h1) (sdepA_cons (Sd.le (by omega) h2) sdepA_nil))))
  | k, .call i r a b, h => by
    unfold wf at h
    unfold dep
    have h1 := sdepL (sblD_small h.2.2.1.1) (sdep_all hc a h.2.2.1.2)
    have h2 := sdepL (sblD_small h.2.2.2.1) (sdep_all hc b h.2.2.2.2)
    have hr := h.2.1.2.1
    exact Sd.le (n := 3 * max (depB a) (depB b) + 6) (by omega) (sdepT (Nat.le_of_ble_eq_true rfl) (sdepA_cons trivial (sdepA_cons trivial (sdepA_cons (sdepI (by omega)) (sdepA_cons (sdepL (Nat.le_of_ble_eq_true rfl) (sdepA_cons (Sd.le (by omega) h1) (sdepA_cons (Sd.le (by omega) h2) sdepA_nil))) sdepA_nil)))))
theorem sdep_all {c m : Nat} (hc : c ≤ 3) : ∀ {k : Nat} (b : List Sm), wfL c m k b → ∀ d ∈ blD b, Sd (3 * depB b + 3) d
  | k, [], h => sdepA_nil
  | k, s :: b, h => by
    unfold wfL at h
    unfold depB blD
    exact sdepA_cons (Sd.le (by omega) (sdep_stD hc s h.1)) fun d hd => Sd.le (by omega) (sdep_all hc b h.2 d hd)
end
theorem sdep_bls {c m : Nat} {bs : List (List Sm)} (hB : Bodies c m bs) (hc : c ≤ 3) (hm : m ≤ 3) : Sd 14 (.lst (blsD bs)) := sdepL (k := 13) (by rw [blsD, List.length_map, hB.len]; omega) fun d hd => by
  obtain ⟨b, hb, rfl⟩ := List.mem_map.mp hd
  obtain ⟨h1, h2, h3⟩ := hB.body b hb
  have := depB_wf h2
  exact sdepL (k := 12) (sblD_small h1) fun d hd => Sd.le (by omega) (sdep_all hc b h2 d hd)

/-! ### copies, longer ones, spoiled ones -/
local macro_rules | `(tactic| walk_at "bx") => `(tactic| first | with_reducible assumption | exact updB_same | (refine getB_ne ?_ ?_; (first | with_reducible assumption | (refine Ne.symm ?_; with_reducible assumption)); walk_at "bx"))
local macro_rules | `(tactic| walk_at "wb1") => `(tactic| first
  | with_reducible refine Go.go ?_
  | refine GoH1.go ⟨_, rfl, ?_⟩
  | refine GoH2.go ⟨_, _, rfl, ?_⟩
  | ((with_reducible refine ex_id ?_); first | ((with_reducible refine' i_fldB2 ?hg ?hl ?hc ?hf ?_); (case hg => exact rfl); (case hl => walk_at "bx"); (case hc => assumption); (case hf => exact rfl)) | ((with_reducible refine' i_putB2 ?hg ?hl ?hc ?hf ?_); (case hg => exact rfl); (case hl => walk_at "bx"); (case hc => assumption); (case hf => exact Nat.le_of_ble_eq_true rfl)) | ((with_reducible refine' i_augB2 ?hg ?hl ?hc ?hf ?_); (case hg => exact rfl); (case hl => walk_at "bx"); (case hc => assumption); (case hf => exact rfl)) | ((with_reducible refine' i_augB3 ?hg ?hl ?hf ?_); (case hg => exact rfl); (case hl => walk_at "bx"); (case hf => exact Nat.le_of_ble_eq_true rfl)) | ((with_reducible refine' i_appB3 ?hg ?hl ?hz ?_); (case hg => exact rfl); (case hl => walk_at "bx"); (case hz => walk_at "side")) | ((with_reducible refine' i_stB2 ?hg ?hl ?ha ?_); (case hg => exact rfl); (case hl => walk_at "bx"); (case ha => exact rfl)) | ((with_reducible refine' i_ixB2 ?hg ?hl ?ha ?_); (case hg => exact rfl); (case hl => walk_at "bx"); (case ha => exact rfl)) | ((with_reducible refine' i_lenB2 ?hg ?hl ?_); (case hg => exact rfl); (case hl => walk_at "bx")) | ((with_reducible refine' i_frzB2 ?hg ?hl ?_); (case hg => exact rfl); (case hl => walk_at "bx")) | ((with_reducible refine' i_dgB2 ?hg ?hl ?ha ?_); (case hg => exact rfl); (case hl => walk_at "bx"); (case ha => exact rfl)) | ((with_reducible refine' i_dpB2 ?hg ?hl ?ha ?hz ?_); (case hg => exact rfl); (case hl => walk_at "bx"); (case ha => exact rfl); (case hz => exact lt_sz rfl)) | ((with_reducible refine' i_listB2 ?hg ?hl ?_); (case hg => exact rfl); (case hl => walk_at "bx")) | ((with_reducible refine' i_methB2 ?hg ?hl ?hn ?_); (case hg => exact rfl); (case hl => walk_at "bx"); (case hn => exact rfl)))
  | ((with_reducible refine' i_appB2 ?hg ?hl ?_); (case hg => exact rfl); (case hl => walk_at "bx"))
  | walk_at "wr1")
local macro_rules | `(tactic| walk_at "wb") => `(tactic| repeat walk_at "wb1")

abbrev s_L_copied : Stmt := topS 41
theorem sc_L_copied : FnScope ["_law_value", "_law_item"] ["_law_value"] (defScope s_L_copied) := ⟨rfl, rfl, rfl, by decide +kernel, rfl, by decide +kernel, by decide +kernel⟩

theorem sc_L_copiedB : FnScope ["_law_value", "_law_item", "$"] ["_law_value"] (defScope s_L_copied) := ⟨rfl, rfl, rfl, by decide +kernel, rfl, by decide +kernel, by decide +kernel⟩

abbrev s_L_longer : Stmt := topS 43
theorem sc_L_longer : FnScope ["_law_value", "_law_item"] ["_law_value"] (defScope s_L_longer) := ⟨rfl, rfl, rfl, by decide +kernel, rfl, by decide +kernel, by decide +kernel⟩

abbrev s_L_spoiled : Stmt := topS 44
theorem sc_L_spoiled : FnScope ["_law_value", "_law_item", "$"] ["_law_value"] (defScope s_L_spoiled) := ⟨rfl, rfl, rfl, by decide +kernel, rfl, by decide +kernel, by decide +kernel⟩

open Bk
def spec_lcopied (k : Nat) : SpecD := .fn (fun d : D => [d]) (Dep k) (fun d => .d d)
def spec_lcopB (k : Nat) : SpecB := .fn (fun d : D => [d]) (fun d _ => Dep k d) (fun d e L L' => ∃ as, NewT L L' d e as)
def spec_llonger (k : Nat) : SpecD := .fn (fun d : D => [d]) (Sd k) (fun d => .d (lgr d))
structure SpA where
  d : D
  e : D
  as : List Addr
def spec_lspoil (k : Nat) : SpecB := .fn (fun a : SpA => [a.e]) (fun a L => Sd k a.d ∧ BxT L a.d a.e a.as ∧ a.as.Nodup) (fun a r L L' => r = .bl true ∧ BxT L' (lgr a.d) a.e a.as ∧ ∀ p, p ∉ a.as → L' p = L p)
theorem one_ls (ds : List D) : ds = dLs ds.length fun i => ds.getD i .non := by
  apply List.ext_getElem?
  intro i
  by_cases hi : i < ds.length
  · rw [dLs_get hi, List.getElem?_eq_getElem hi, List.getD_eq_getElem?_getD, List.getElem?_eq_getElem hi]; rfl
  · rw [List.getElem?_eq_none (by omega), List.getElem?_eq_none (by rw [dLs_len]; omega)]
/-- a comprehension over the items told by a function, that changes the slots -/
theorem i_mapPJ {α : Type} {xs : List α} {items : List D} {vs : List Nat} {γ : List Sl} {wg : WG} {we : WE} {QF : List D → List Sl → Prop} (it : α → D) (J : List α → List D → List Sl → Prop) (he : items = xs.map it) (hz : xs.length ≤ 100000) (h0 : J [] [] γ) (ha : ∀ dn acc γ', J dn acc γ' → anyAt γ' vs = true)
    (h : ∀ dn x post acc γ', xs = dn ++ x :: post → J dn acc γ' → wg (it x) γ' fun γ2 => we γ2 fun y γ4 => J (dn ++ [x]) (acc ++ [y]) (wipeG γ4 vs)) (q : ∀ acc γ', J xs acc γ' → QF acc γ') : LcG items γ wg dYes we vs QF := by
  subst he
  refine ⟨by rw [List.length_map]; exact smallN hz, anyAt_ok (ha _ _ _ h0), fun i acc γ' => J (xs.take i) acc γ', h0, ?_, ?_⟩
  · intro i acc γ' d hd hJ
    rw [List.getElem?_map] at hd
    obtain ⟨x, hx, rfl⟩ := Option.map_eq_some_iff.mp hd
    have hi : i < xs.length := (List.getElem?_eq_some_iff.mp hx).1
    have e : xs.take (i + 1) = xs.take i ++ [x] := by rw [List.take_add_one, hx]; rfl
    refine ⟨anyAt_ok (ha _ _ _ hJ), ?_⟩
    show wg (it x) γ' fun γ2 => we γ2 fun y γ4 => J (xs.take (i + 1)) (acc ++ [y]) (wipeG γ4 vs)
    rw [e]
    refine h (xs.take i) x (xs.drop (i + 1)) acc γ' ?_ hJ
    have e2 : xs[i] = x := by rw [List.getElem?_eq_getElem hi] at hx; exact Option.some.inj hx
    rw [← e2, ← List.drop_eq_getElem_cons hi, List.take_append_drop]
  · intro acc γ' hJ
    rw [List.length_map, List.take_length] at hJ
    exact ⟨anyAt_ok (ha _ _ _ hJ), q acc γ' hJ⟩
section
variable {P : Program} {w : World} {K : PySem.W.Frag} {mg : Str → Option Value} {base : Heap}
theorem ok_L_copied (M : Blt mg) (hSeer : seerB K = true) (hTree : P.given.tree = none) (G_L_copied : Gf K mg "_law_copied" s_L_copied ["_law_value"]) : ∀ k, FnOk P w K mg base CX0 k G_L_copied.f G_L_copied.fd ["_law_value"] (spV K (spec_lcopied k)) := by
  intro k
  induction k with
  | zero => exact fn_none fun ds Q ⟨a, _, h, _⟩ => h
  | succ k IH =>
    refine fn_ok G_L_copied.F sc_L_copied (fun ds Q ⟨a, e, _⟩ => by rw [e]; rfl) fun cdv A outer s0 H E hr => ⟨_, _, (dss_cons (ds_if (dt_tr K (de_isi K kit_L M.isinstance M.list (by decide +kernel) (de_var 0))) (dss_one (ds_ret (DF.v (df_lc (own := [("_law_item", 1)]) rfl sc_L_copied.nd (di_list K (de_var 0)) (blkOk_by (by rfl)) (fun _ _ _ _ _ => (dg_name (i := 1) sc_L_copied.nd)) (gin_name (by decide)) gmo_name (fun _ _ _ _ _ => dts_nil) (fun _ _ _ _ _ => (de_call K IH hr G_L_copied.g G_L_copied.F.kp G_L_copied.b (da_cons (de_var 1) da_nil))))))) dss_nil)
      (dss_cons (ds_if (dt_tr K (de_isi K kit_U M.isinstance M.tuple (by decide +kernel) (de_var 0))) (dss_one (ds_ret (de_tupleOf K M.tuple (DF.v (df_lc (own := [("_law_item", 1)]) rfl sc_L_copied.nd (di_tup K (de_var 0)) (blkOk_by (by rfl)) (fun _ _ _ _ _ => (dg_name (i := 1) sc_L_copied.nd)) (gin_name (by decide)) gmo_name (fun _ _ _ _ _ => dts_nil) (fun _ _ _ _ _ => (de_call K IH hr G_L_copied.g G_L_copied.F.kp G_L_copied.b (da_cons (de_var 1) da_nil)))))))) dss_nil)
      (dss_one (ds_ret (de_var 0))))), ?_⟩
    rintro ds Q ⟨d, rfl, hd, q⟩
    replace q : Q (.d d) := q
    cases d with
    | obj C fs => exact hd.elim
    | emp => exact hd.elim
    | ref p => exact hd.elim
    | lst ds =>
      obtain ⟨hz, hd⟩ := hd
      walk_at "wr"
      refine i_mapN (n := ds.length) (fun i => ds.getD i .non) (fun i => ds.getD i .non) (one_ls ds) hz rfl (fun i hi R hR => ?_) ?_
      · walk_at "wr"
        refine ⟨_, rfl, hd _ ?_, ?_⟩
        · rw [List.getD_eq_getElem?_getD, List.getElem?_eq_getElem hi]
          exact List.getElem_mem _
        · exact hR _ rfl
      · rw [← one_ls ds]
        walk_at "wr"
        try exact q
    | tup ds =>
      obtain ⟨hz, hd⟩ := hd
      walk_at "wr"
      refine i_mapN (n := ds.length) (fun i => ds.getD i .non) (fun i => ds.getD i .non) (one_ls ds) hz rfl (fun i hi R hR => ?_) ?_
      · walk_at "wr"
        refine ⟨_, rfl, hd _ ?_, ?_⟩
        · rw [List.getD_eq_getElem?_getD, List.getElem?_eq_getElem hi]
          exact List.getElem_mem _
        · exact hR _ rfl
      · rw [← one_ls ds]
        walk_at "wr"
        try exact q
    | _ =>
      walk_at "wr"
      try exact q
theorem ok_L_copiedB (M : Blt mg) (hSeer : seerB K = true) (hTree : P.given.tree = none) (G_L_copied : Gf K mg "_law_copied" s_L_copied ["_law_value"]) : ∀ k, FnOk P w K mg base CX0 k G_L_copied.f G_L_copied.fd ["_law_value"] (spB K (spec_lcopB k)) := by
  intro k
  induction k with
  | zero => exact fn_noneB fun ds L Q ⟨a, _, h, _⟩ => h
  | succ k H_L_copiedB =>
    refine fn_okB G_L_copied.F sc_L_copiedB (by decide) (fun ds L Q ⟨a, e, _⟩ => by rw [e]; rfl) fun cdv A outer s0 H E hr => ⟨_, _, (dss_cons (ds_if (dt_tr K (de_isi K kit_L M.isinstance M.list (by decide +kernel) (de_var 0))) (dss_one (ds_ret (de_newB 2 (df_lc (own := [("_law_item", 1)]) rfl sc_L_copiedB.nd (di_list K (de_var 0)) (blkOk_by (by rfl)) (fun _ _ _ _ _ => (dg_name (i := 1) sc_L_copiedB.nd)) (gin_name (by decide)) gmo_name (fun _ _ _ _ _ => dts_nil) (fun _ _ _ _ _ => (de_callBx K 2 H_L_copiedB (hr.mono (by omega)) G_L_copied.g G_L_copied.F.kp G_L_copied.b (da_cons (de_var 1) da_nil))))))) dss_nil)
      (dss_cons (ds_if (dt_tr K (de_isi K kit_U M.isinstance M.tuple (by decide +kernel) (de_var 0))) (dss_one (ds_ret (de_tupleOf K M.tuple (DF.v (df_lc (own := [("_law_item", 1)]) rfl sc_L_copiedB.nd (di_tup K (de_var 0)) (blkOk_by (by rfl)) (fun _ _ _ _ _ => (dg_name (i := 1) sc_L_copiedB.nd)) (gin_name (by decide)) gmo_name (fun _ _ _ _ _ => dts_nil) (fun _ _ _ _ _ => (de_callBx K 2 H_L_copiedB (hr.mono (by omega)) G_L_copied.g G_L_copied.F.kp G_L_copied.b (da_cons (de_var 1) da_nil)))))))) dss_nil)
      (dss_one (ds_ret (de_var 0))))), ?_⟩
    rintro ds L Q ⟨d, rfl, hd, q⟩
    replace q : ∀ e L' as, NewT L L' d e as → Q e L' := fun e L' as h => q e L' ⟨as, h⟩
    cases d with
    | obj C fs => exact hd.elim
    | emp => exact hd.elim
    | ref p => exact hd.elim
    | lst ds =>
      obtain ⟨hz, hd⟩ := hd
      walk_at "wb"
      refine i_mapPJ (xs := ds) (fun x => x) (fun dn acc γ => ∃ L1 as, NewTs L L1 dn acc as ∧ γ = [.val (.lst ds), .any, .hp true L1]) (by rw [List.map_id']) hz ⟨L, [], .nil, rfl⟩ ?_ ?_ ?_
      · rintro dn acc γ ⟨L1, as, _, rfl⟩
        rfl
      · rintro dn x post acc γ eb ⟨L1, as, ht, rfl⟩
        walk_at "wb"
        refine ⟨x, rfl, hd x (by rw [eb]; exact List.mem_append_right _ (List.mem_cons_self ..)), fun e L2 ⟨a, hn⟩ => ?_⟩
        exact ⟨L2, _, ht.snoc hn, rfl⟩
      · rintro acc γ ⟨L1, as, ht, rfl⟩
        exact ⟨_, _, rfl, fun p hp => ⟨_, _, rfl, rfl, q _ _ _ (ht.lst hp)⟩⟩
    | tup ds =>
      obtain ⟨hz, hd⟩ := hd
      walk_at "wb"
      refine i_mapPJ (xs := ds) (fun x => x) (fun dn acc γ => ∃ L1 as, NewTs L L1 dn acc as ∧ γ = [.val (.tup ds), .any, .hp true L1]) (by rw [List.map_id']) hz ⟨L, [], .nil, rfl⟩ ?_ ?_ ?_
      · rintro dn acc γ ⟨L1, as, _, rfl⟩
        rfl
      · rintro dn x post acc γ eb ⟨L1, as, ht, rfl⟩
        walk_at "wb"
        refine ⟨x, rfl, hd x (by rw [eb]; exact List.mem_append_right _ (List.mem_cons_self ..)), fun e L2 ⟨a, hn⟩ => ?_⟩
        exact ⟨L2, _, ht.snoc hn, rfl⟩
      · rintro acc γ ⟨L1, as, ht, rfl⟩
        exact ⟨_, .inl rfl, _, _, rfl, rfl, q _ _ _ ht.tup⟩
    | _ =>
      walk_at "wb"
      exact ⟨_, _, rfl, rfl, q _ _ _ (.flat (by unfold BxT; exact ⟨rfl, rfl⟩))⟩
theorem ok_L_longer (M : Blt mg) (hSeer : seerB K = true) (hTree : P.given.tree = none) (G_L_longer : Gf K mg "_law_longer" s_L_longer ["_law_value"]) : ∀ k, FnOk P w K mg base CX0 k G_L_longer.f G_L_longer.fd ["_law_value"] (spV K (spec_llonger k)) := by
  intro k
  induction k with
  | zero => exact fn_none fun ds Q ⟨a, _, h, _⟩ => h
  | succ k IH =>
    refine fn_ok G_L_longer.F sc_L_longer (fun ds Q ⟨a, e, _⟩ => by rw [e]; rfl) fun cdv A outer s0 H E hr => ⟨_, _, (dss_cons (ds_if (dt_tr K (de_isi K kit_L M.isinstance M.list (by decide +kernel) (de_var 0))) (dss_one (ds_ret (DF.v (df_cat (DF.v (df_lc (own := [("_law_item", 1)]) rfl sc_L_longer.nd (di_list K (de_var 0)) (blkOk_by (by rfl)) (fun _ _ _ _ _ => (dg_name (i := 1) sc_L_longer.nd)) (gin_name (by decide)) gmo_name (fun _ _ _ _ _ => dts_nil) (fun _ _ _ _ _ => (de_call K IH hr G_L_longer.g G_L_longer.F.kp G_L_longer.b (da_cons (de_var 1) da_nil))))) (DF.v (df_lst (da_cons de_int da_nil))))))) dss_nil)
      (dss_cons (ds_if (dt_tr K (de_isi K kit_U M.isinstance M.tuple (by decide +kernel) (de_var 0))) (dss_one (ds_ret (de_tupleOf K M.tuple (DF.v (df_lc (own := [("_law_item", 1)]) rfl sc_L_longer.nd (di_tup K (de_var 0)) (blkOk_by (by rfl)) (fun _ _ _ _ _ => (dg_name (i := 1) sc_L_longer.nd)) (gin_name (by decide)) gmo_name (fun _ _ _ _ _ => dts_nil) (fun _ _ _ _ _ => (de_call K IH hr G_L_longer.g G_L_longer.F.kp G_L_longer.b (da_cons (de_var 1) da_nil)))))))) dss_nil)
      (dss_one (ds_ret (de_var 0))))), ?_⟩
    rintro ds Q ⟨d, rfl, hd, q⟩
    replace q : Q (.d (lgr d)) := q
    have hsl := sizeLine_eq
    cases d with
    | obj C fs => exact hd.elim
    | emp => exact hd.elim
    | ref p => exact hd.elim
    | lst ds =>
      obtain ⟨hz, hd⟩ := hd
      walk_at "wr"
      refine i_mapM (xs := ds) (fun x => x) lgr (by rw [List.map_id']) (by omega) rfl (fun x hx R hR => ?_) ?_
      · walk_at "wr"
        refine ⟨x, rfl, hd x hx, ?_⟩
        exact hR _ rfl
      · rw [← lgrs_map]
        have hl : (lgrs ds).length = ds.length := by rw [lgrs_map, List.length_map]
        walk_at "wr"
        try exact q
    | tup ds =>
      obtain ⟨hz, hd⟩ := hd
      walk_at "wr"
      refine i_mapM (xs := ds) (fun x => x) lgr (by rw [List.map_id']) (by omega) rfl (fun x hx R hR => ?_) ?_
      · walk_at "wr"
        refine ⟨x, rfl, hd x hx, ?_⟩
        exact hR _ rfl
      · rw [← lgrs_map]
        walk_at "wr"
        try exact q
    | _ =>
      walk_at "wr"
      try exact q
theorem ok_L_spoiled (M : Blt mg) (hSeer : seerB K = true) (hTree : P.given.tree = none) (G_L_spoiled : Gf K mg "_law_spoiled" s_L_spoiled ["_law_value"]) : ∀ k, k ≤ 20 → FnOk P w K mg base CX0 k G_L_spoiled.f G_L_spoiled.fd ["_law_value"] (spB K (spec_lspoil k)) := by
  intro k
  induction k with
  | zero => exact fun _ => fn_noneB fun ds L Q ⟨a, _, h, _⟩ => h.1
  | succ k IH =>
    intro hk
    have H_L_spoiled := IH (by omega)
    refine fn_okB G_L_spoiled.F sc_L_spoiled (by decide) (fun ds L Q ⟨a, e, _⟩ => by rw [e]; rfl) fun cdv A outer s0 H E hr => ⟨_, _, (dss_cut (ds_if (dt_lendN 24 2 (dt_tr K (de_isi K kit_L M.isinstance M.list (by decide +kernel) (de_var 0)))) (dss_cons (ds_forB K 2 PassesOwn.never rfl (de_var 0) (dg_name (i := 1) sc_L_spoiled.nd) (dss_one (ds_expr (de_callBx K 2 H_L_spoiled (hr.mono (by omega)) G_L_spoiled.g G_L_spoiled.F.kp G_L_spoiled.b (da_cons (de_var 1) da_nil)))))
      (dss_one (ds_appB 2 (fun h g => pe_bm PySem.F.plainAttrs_list PySem.F.slot_list_append PySem.F.type_list_append mt_append h (pa_cons g pa_nil)) (de_var 0) de_int))) dss_nil)
      (dss_cut (ds_if (dt_lendN 24 2 (dt_tr K (de_isi K kit_U M.isinstance M.tuple (by decide +kernel) (de_var 0)))) (dss_one (ds_for PassesOwn.never rfl (di_tup K (de_var 0)) (dg_name (i := 1) sc_L_spoiled.nd) (dss_one (ds_expr (de_callBx K 2 H_L_spoiled (hr.mono (by omega)) G_L_spoiled.g G_L_spoiled.F.kp G_L_spoiled.b (da_cons (de_var 1) da_nil)))))) dss_nil)
      (dss_one (ds_ret de_bl)))), ?_⟩
    rintro ds L Q ⟨⟨d, e, as⟩, rfl, ⟨hd, hb, hn⟩, q⟩
    replace hd : Sd (k + 1) d := hd
    replace hb : BxT L d e as := hb
    replace hn : as.Nodup := hn
    replace q : ∀ L', BxT L' (lgr d) e as → (∀ p, p ∉ as → L' p = L p) → Q (.bl true) L' := fun L' h1 h2 => q _ L' ⟨rfl, h1, h2⟩
    have s1 : subX (subN 24 L) e = d := BxT.sub 24 d e as (Dep.le (by omega) hd.dep) hb
    have s2 : ∀ {L'}, BxT L' (lgr d) e as → subX (subN 24 L') e = lgr d := fun h => BxT.sub 24 _ e as (Dep.le (by omega) (dep_lgr hd)) h
    show dCut _ _ _ ([.val e, .any, .hp true L] : List Sl)
    refine ⟨fun γ => ∃ (L' : Bxs) (s1 : Sl), γ = [.val e, s1, .hp true L'] ∧ (isL d = true → BxT L' (lgr d) e as ∧ ∀ p, p ∉ as → L' p = L p) ∧ (isL d = false → L' = L), ?_, ?_⟩
    · walk_at "wb"
      rw [s1]
      cases d with
      | obj C fs => exact hd.elim
      | emp => exact hd.elim
      | ref p => exact hd.elim
      | lst ds =>
        obtain ⟨p, es, as', rfl, rfl, l, k1⟩ := hb.lst_inv
        have hnn := List.nodup_cons.mp hn
        have hl := k1.len
        walk_at "wb"
        refine ⟨p, es, rfl, ⟨_, _, rfl, l⟩, fun i γ => ∃ (L' : Bxs) (s1 : Sl), γ = [.val (.ref p), s1, .hp true L'] ∧ SpJ L ds es as' i L', ⟨L, _, rfl, .zero k1⟩, ?_, ?_⟩
        · rintro i x γ hx ⟨L', s1, rfl, j⟩
          obtain ⟨d, a, h1, h2, h3, h4, h5⟩ := j.step hnn.2 hx
          have hp : L' p = some (.lst es) := by
            obtain ⟨_, _, _, _, _, fr⟩ := j
            exact (fr p hnn.1).trans l
          refine ⟨⟨_, _, rfl, hp⟩, ?_⟩
          walk_at "wb"
          refine ⟨⟨d, x, a⟩, rfl, ⟨hd.2 d (List.mem_of_getElem? h1), h2, h3⟩, fun r L2 ⟨_, g1, g2⟩ => ?_⟩
          walk_at "wb"
          exact ⟨L2, _, rfl, h5 L2 g1 g2⟩
        · rintro γ ⟨L', s1, rfl, j⟩
          have hp : L' p = some (.lst es) := by
            obtain ⟨_, _, _, _, _, fr⟩ := j
            exact (fr p hnn.1).trans l
          obtain ⟨g1, g2⟩ := j.done hl
          refine ⟨⟨_, _, rfl, hp⟩, ?_⟩
          have hsl := sizeLine_eq
          have hd1 := hd.1
          walk_at "wb"
          have f1 : BxT (updB L' p (.lst (es ++ [.int 7]))) (lgr (.lst ds)) (.ref p) (p :: as') := by
            unfold lgr
            have h := BxTs.snoc (BxTs.mono _ _ _ (fun q hq => updB_ne (b := .lst (es ++ [.int 7])) (q := q) (p := p) (L := L') fun z => hnn.1 (z ▸ hq)) g1) (BxT.int (i := 7))
            rw [List.append_nil] at h
            exact BxT.lst updB_same h
          have f2 : ∀ q, q ∉ p :: as' → updB L' p (.lst (es ++ [.int 7])) q = L q := fun q hq => by
            rw [updB_ne (p := p) (q := q) (fun z => hq (by rw [z]; exact List.mem_cons_self ..))]
            exact g2 q fun z => hq (List.mem_cons_of_mem _ z)
          exact ⟨_, _, rfl, (fun _ => ⟨f1, f2⟩), (fun z => by cases z)⟩
      | _ =>
        walk_at "wb"
        exact ⟨_, _, rfl, (fun z => by cases z), fun _ => rfl⟩
    rintro γ ⟨L1, s3, rfl, h1, h2⟩
    refine ⟨fun γ => ∃ (L' : Bxs) (s1 : Sl), γ = [.val e, s1, .hp true L'] ∧ BxT L' (lgr d) e as ∧ ∀ p, p ∉ as → L' p = L p, ?_, ?_⟩
    · walk_at "wb"
      cases d with
      | obj C fs => exact hd.elim
      | emp => exact hd.elim
      | ref p => exact hd.elim
      | lst ds =>
        obtain ⟨g1, g2⟩ := h1 rfl
        rw [s2 g1]
        unfold lgr
        walk_at "wb"
        exact ⟨L1, _, rfl, g1, g2⟩
      | tup ds =>
        obtain rfl := h2 rfl
        obtain ⟨es, rfl, k1⟩ := hb.tup_inv
        have hl := k1.len
        rw [s1]
        walk_at "wb"
        refine ⟨fun i γ => ∃ (L' : Bxs) (s1 : Sl), γ = [.val (.tup es), s1, .hp true L'] ∧ SpJ L1 ds es as i L', ⟨L1, _, rfl, .zero k1⟩, ?_, ?_⟩
        · rintro i x γ hx ⟨L', s1, rfl, j⟩
          obtain ⟨d, a, h1, h2, h3, h4, h5⟩ := j.step hn hx
          walk_at "wb"
          refine ⟨⟨d, x, a⟩, rfl, ⟨hd.2 d (List.mem_of_getElem? h1), h2, h3⟩, fun r L2 ⟨_, g1, g2⟩ => ?_⟩
          walk_at "wb"
          exact ⟨L2, _, rfl, h5 L2 g1 g2⟩
        · rintro γ ⟨L', s1, rfl, j⟩
          obtain ⟨g1, g2⟩ := j.done hl
          exact ⟨L', _, rfl, BxT.tup g1, g2⟩
      | _ =>
        obtain rfl := h2 rfl
        rw [s1]
        walk_at "wb"
        exact ⟨_, _, rfl, hb, fun _ _ => rfl⟩
    rintro γ ⟨L2, s4, rfl, h3, h4⟩
    walk_at "wb"
    exact ⟨_, _, rfl, rfl, q _ h3 h4⟩
end

/-! ### a book's copies in boxes; a book made of boxes -/
theorem sc_copied_statementD : FnScope ["statement", "blocks", "block", "$"] ["statement"] (defScope s_copied_statement) := ⟨rfl, rfl, rfl, by decide +kernel, rfl, by decide +kernel, by decide +kernel⟩

theorem sc_copied_blockD : FnScope ["block", "statement", "$"] ["block"] (defScope s_copied_block) := ⟨rfl, rfl, rfl, by decide +kernel, rfl, by decide +kernel, by decide +kernel⟩

theorem sc_Book_bodiesD : FnScope ["self", "body", "$"] ["self"] (defScope s_Book_bodies) := ⟨rfl, rfl, rfl, by decide +kernel, rfl, by decide +kernel, by decide +kernel⟩

theorem sc_copied_statementC : FnScope ["statement", "blocks", "block", "$"] ["statement"] (defScope s_copied_statement) := ⟨rfl, rfl, rfl, by decide +kernel, rfl, by decide +kernel, by decide +kernel⟩

theorem sc_copied_blockC : FnScope ["block", "statement", "$"] ["block"] (defScope s_copied_block) := ⟨rfl, rfl, rfl, by decide +kernel, rfl, by decide +kernel, by decide +kernel⟩

theorem sc_Book_initC : FnScope ["self", "cells", "bodies", "procedure", "body", "fault", "met", "$"] ["self", "cells", "bodies"] (defScope s_Book_init) := ⟨rfl, rfl, rfl, by decide +kernel, rfl, by decide +kernel, by decide +kernel⟩

open Bk
def spec_csD (d : Nat) : SpecB := .fn (fun a : Sm × Nat × Nat × Nat => [stD a.1]) (fun a _ => dep a.1 ≤ d ∧ okS a.2.1 a.2.2.1 a.2.2.2 a.1) (fun a e L L' => ∃ as, NewT L L' (stD a.1) e as)
def spec_cbD (d : Nat) : SpecB := .fn (fun a : List Sm × Nat × Nat × Nat => [.lst (blD a.1)]) (fun a _ => depB a.1 < d ∧ okB a.2.1 a.2.2.1 a.2.2.2 a.1) (fun a e L L' => ∃ as, NewT L L' (.lst (blD a.1)) e as)
def spec_bbD (C : Addr) : SpecB := .fn (fun a : Nat × Nat × List (List Sm) => [bookD C a.1 a.2.2]) (fun a _ => okBk a.1 a.2.1 a.2.2) (fun a e L L' => ∃ as, NewT L L' (.lst (blsD a.2.2)) e as)
section
variable {P : Program} {w : World} {K : PySem.W.Frag} {mg : Str → Option Value} {base : Heap}
theorem ok_copiedD (M : Blt mg) (hSeer : seerB K = true) (hTree : P.given.tree = none) (G_blocks_of : Gf K mg "blocks_of" s_blocks_of ["statement"]) (G_copied_statement : Gf K mg "copied_statement" s_copied_statement ["statement"]) (G_copied_block : Gf K mg "copied_block" s_copied_block ["block"]) : ∀ d, FnOk P w K mg base CX0 (2 * d + 1) G_copied_block.f G_copied_block.fd ["block"] (spB K (spec_cbD d)) ∧ FnOk P w K mg base CX0 (2 * d + 1 + 1) G_copied_statement.f G_copied_statement.fd ["statement"] (spB K (spec_csD d)) := by
  have H_blocks_of := ok_blocks_of (P := P) (w := w) (base := base) M hSeer hTree G_blocks_of
  have cs : ∀ d, FnOk P w K mg base CX0 (2 * d + 1) G_copied_block.f G_copied_block.fd ["block"] (spB K (spec_cbD d)) → FnOk P w K mg base CX0 (2 * d + 1 + 1) G_copied_statement.f G_copied_statement.fd ["statement"] (spB K (spec_csD d)) := by
    intro d H_copied_blockD
    refine fn_okB G_copied_statement.F sc_copied_statementD (by decide) (fun ds L Q ⟨a, e, _⟩ => by rw [e]; rfl) fun cdv A outer s0 H E hr => ⟨_, _, (dss_cons (ds_setLcB 3 (i := 1) (own := [("block", 2)]) rfl sc_copied_statementD.nd (di_list K (de_call K H_blocks_of (hr.mono (by omega)) G_blocks_of.g G_blocks_of.F.kp G_blocks_of.b (da_cons (de_var 0) da_nil))) (blkOk_by (by rfl)) (fun _ _ _ _ _ => (dg_name (i := 2) sc_copied_statementD.nd)) (gin_name (by decide)) gmo_name (fun _ _ _ _ _ => dts_nil) (fun _ _ _ _ _ => (de_callBx K 3 H_copied_blockD (hr.mono (by omega)) G_copied_block.g G_copied_block.F.kp G_copied_block.b (da_cons (de_var 2) da_nil))))
      (dss_one (ds_match (de_ix K (de_var 0) de_int) (dm_str pp_str (dss_one (ds_ret (de_tup (da_cons de_str (da_cons (de_ix K (de_var 0) de_int) (da_cons (de_newB 3 (df_list K M.list (de_ix K (de_var 0) de_int))) da_nil))))))
      (dm_str pp_str (dss_one (ds_ret (de_tup (da_cons de_str (da_cons (de_newB 3 (df_list K M.list (de_ix K (de_var 0) de_int))) da_nil)))))
      (dm_str pp_str (dss_one (ds_ret (de_tup (da_cons de_str (da_cons (de_newB 3 (df_list K M.list (de_ix K (de_var 0) de_int))) (da_cons (de_ixB K 3 (de_var 1) de_int) da_nil))))))
      (dm_str (pp_or (pps_cons pp_str (pps_cons pp_str pps_nil))) (dss_one (ds_ret (de_tup (da_cons (de_ix K (de_var 0) de_int) (da_starB K 3 (de_var 1) da_nil)))))
      (dm_str pp_str (dss_one (ds_ret (de_tup (da_cons de_str (da_cons (de_ix K (de_var 0) de_int) (da_cons (de_newB 3 (df_list K M.list (de_ix K (de_var 0) de_int))) (da_cons (de_var 1) da_nil)))))))
      (dm_any (dss_one (ds_ret (de_tup (da_cons de_str (da_cons (de_ix K (de_var 0) de_int) da_nil)))))))))))))), ?_⟩
    rintro ds L Q ⟨⟨s, c, m, k⟩, rfl, ⟨hd, hs, hc, hm⟩, q⟩
    have hd : dep s ≤ d := hd
    have hs : wf c m k s := hs
    replace q : ∀ e L' as, NewT L L' (stD s) e as → Q e L' := fun e L' as h => q e L' ⟨as, h⟩
    walk_at "wb"
    refine ⟨s, rfl, trivial, ?_⟩
    walk_at "wb"
    refine i_mapPJ (xs := blocks s) (fun b => .lst (blD b)) (fun dn acc γ => ∃ L1 as, NewTs L L1 (blsD dn) acc as ∧ γ = [.val (stD s), .any, .any, .hp true L1]) rfl (by have := blocks_len s; omega) ⟨L, [], .nil, rfl⟩ ?_ ?_ ?_
    · rintro dn acc γ ⟨L1, as, _, rfl⟩
      rfl
    · rintro dn b post acc γ eb ⟨L1, as, ht, rfl⟩
      have hb : b ∈ blocks s := by rw [eb]; exact List.mem_append_right _ (List.mem_cons_self ..)
      have h1 := dep_blocks hb
      have h2 := wf_blocks hs hb
      walk_at "wb"
      refine ⟨(b, c, m, k - 1), rfl, ⟨by show depB b < d; omega, h2.2.1, h2.2.2, hc, hm⟩, fun e L2 ⟨a, hn⟩ => ?_⟩
      refine ⟨L2, as ++ a, ?_, rfl⟩
      rw [show blsD (dn ++ [b]) = blsD dn ++ [.lst (blD b)] by rw [blsD, blsD, List.map_append]; rfl]
      exact ht.snoc hn
    · rintro acc γ ⟨L1, as, ht, rfl⟩
      refine ⟨_, _, rfl, fun p hp => ?_⟩
      obtain ⟨hbx, hnd, hnw, hkp⟩ := ht
      have hkp : ExtB L L1 := hkp
      cases s with
      | set i r =>
        obtain ⟨rfl, rfl⟩ := hbx.nil_inv
        simp only [stD]
        walk_at "wb"
        intro p2 hp2
        have x2 := (hkp.trans (.new hp)).no hp2
        walk_at "wb"
        exact ⟨_, _, rfl, rfl, q _ _ [p2] ⟨BxT.tup (BxTs.conS (BxTs.conI (BxTs.conR updB_same .nil))), by simp, fun a ha => by rw [List.mem_singleton.mp ha]; exact x2, hkp.trans ((ExtB.new hp).trans (.new hp2))⟩⟩
      | carry r =>
        obtain ⟨rfl, rfl⟩ := hbx.nil_inv
        simp only [stD]
        walk_at "wb"
        intro p2 hp2
        have x2 := (hkp.trans (.new hp)).no hp2
        walk_at "wb"
        exact ⟨_, _, rfl, rfl, q _ _ [p2] ⟨BxT.tup (BxTs.conS (BxTs.conR updB_same .nil)), by simp, fun a ha => by rw [List.mem_singleton.mp ha]; exact x2, hkp.trans ((ExtB.new hp).trans (.new hp2))⟩⟩
      | end_ b =>
        simp only [stD]
        walk_at "wb"
        exact ⟨_, _, rfl, rfl, q _ _ [] ⟨BxT.tup (BxTs.conS (BxTs.conI .nil)), List.nodup_nil, (fun a ha => by cases ha), hkp.trans (.new hp)⟩⟩
      | keep cs b =>
        obtain ⟨e0, es', a, b', rfl, rfl, k1, k2⟩ := hbx.cons_inv
        obtain ⟨rfl, rfl⟩ := k2.nil_inv
        rw [List.append_nil] at hnd hnw
        simp only [stD]
        walk_at "wb"
        intro p2 hp2
        have x2 := (hkp.trans (.new hp)).no hp2
        have hne : p ≠ p2 := fun z => by rw [← z, updB_same] at hp2; cases hp2
        walk_at "wb"
        have n1 := k1.ext (ExtB.new (b := .lst [e0]) hp)
        refine ⟨_, _, rfl, rfl, q _ _ (p2 :: a) ⟨BxT.tup (BxTs.conS (BxTs.conR updB_same (.one (n1.ext (.new hp2))))), List.nodup_cons.mpr ⟨n1.nin hp2, hnd⟩, fun x hx => ?_, hkp.trans ((ExtB.new hp).trans (.new hp2))⟩⟩
        rcases List.mem_cons.mp hx with rfl | hx
        · exact x2
        · exact hnw x hx
      | again b =>
        obtain ⟨e0, es', a, b', rfl, rfl, k1, k2⟩ := hbx.cons_inv
        obtain ⟨rfl, rfl⟩ := k2.nil_inv
        rw [List.append_nil] at hnd hnw
        simp only [stD]
        walk_at "wb"
        refine ⟨_, .inr ⟨p, rfl, _, _, rfl, updB_same⟩, ?_⟩
        walk_at "wb"
        exact ⟨_, _, rfl, rfl, q _ _ a ⟨BxT.tup (BxTs.conS (.one (k1.ext (.new hp)))), hnd, hnw, hkp.trans (.new hp)⟩⟩
      | either b1 b2 =>
        have hl := hbx.len
        simp only [stD]
        walk_at "wb"
        refine ⟨_, .inr ⟨p, rfl, _, _, rfl, updB_same⟩, ?_⟩
        have hl : acc.length = 2 := hl
        have hsl := sizeLine_eq
        walk_at "wb"
        rw [List.append_nil]
        exact ⟨_, _, rfl, rfl, q _ _ as ⟨BxT.tup (BxTs.conS (BxTs.ext (ds := [.lst (blD b1), .lst (blD b2)]) hbx (.new hp))), hnd, hnw, hkp.trans (.new hp)⟩⟩
      | call i r b1 b2 =>
        simp only [stD]
        walk_at "wb"
        intro p2 hp2
        have x2 := (hkp.trans (.new hp)).no hp2
        have hne : p ≠ p2 := fun z => by rw [← z, updB_same] at hp2; cases hp2
        walk_at "wb"
        have n1 := BxT.lst (L := updB L1 p (.lst acc)) updB_same (BxTs.ext (ds := [.lst (blD b1), .lst (blD b2)]) hbx (.new hp))
        refine ⟨_, _, rfl, rfl, q _ _ (p2 :: p :: as) ⟨BxT.tup (BxTs.conS (BxTs.conI (BxTs.conR updB_same (.one (n1.ext (.new hp2)))))), List.nodup_cons.mpr ⟨n1.nin hp2, List.nodup_cons.mpr ⟨hbx.nin hp, hnd⟩⟩, fun x hx => ?_, hkp.trans ((ExtB.new hp).trans (.new hp2))⟩⟩
        rcases List.mem_cons.mp hx with rfl | hx
        · exact x2
        rcases List.mem_cons.mp hx with rfl | hx
        · exact hkp.no hp
        · exact hnw x hx
  intro d
  induction d with
  | zero =>
    have h0 : FnOk P w K mg base CX0 (2 * 0 + 1) G_copied_block.f G_copied_block.fd ["block"] (spB K (spec_cbD 0)) := (fn_noneB fun ds L Q (h : (spec_cbD 0).S ds L Q) => let ⟨_, _, h, _⟩ := h; Nat.not_lt_zero _ h.1).mono (Nat.zero_le _)
    exact ⟨h0, cs 0 h0⟩
  | succ d ih =>
    have H_copied_statementD := ih.2
    have h1 : FnOk P w K mg base CX0 (2 * (d + 1) + 1) G_copied_block.f G_copied_block.fd ["block"] (spB K (spec_cbD (d + 1))) := by
      refine fn_okB G_copied_block.F sc_copied_blockD (by decide) (fun ds L Q ⟨a, e, _⟩ => by rw [e]; rfl) fun cdv A outer s0 H E hr => ⟨_, _, (dss_one (ds_ret (de_newB 2 (df_lc (own := [("statement", 1)]) rfl sc_copied_blockD.nd (di_list K (de_var 0)) (blkOk_by (by rfl)) (fun _ _ _ _ _ => (dg_name (i := 1) sc_copied_blockD.nd)) (gin_name (by decide)) gmo_name (fun _ _ _ _ _ => dts_nil) (fun _ _ _ _ _ => (de_callBx K 2 H_copied_statementD (hr.mono (by omega)) G_copied_statement.g G_copied_statement.F.kp G_copied_statement.b (da_cons (de_var 1) da_nil))))))), ?_⟩
      rintro ds L Q ⟨⟨b, c, m, k⟩, rfl, ⟨hd, hb, hw, hc, hm⟩, q⟩
      have hd : depB b < d + 1 := hd
      have hb : b.length ≤ 8 := hb
      have hw : wfL c m k b := hw
      replace q : ∀ e L' as, NewT L L' (.lst (blD b)) e as → Q e L' := fun e L' as h => q e L' ⟨as, h⟩
      walk_at "wb"
      refine i_mapPJ (xs := b) stD (fun dn acc γ => ∃ L1 as, NewTs L L1 (blD dn) acc as ∧ γ = [.val (.lst (blD b)), .any, .hp true L1]) (blD_map b) (by omega) ⟨L, [], .nil, rfl⟩ ?_ ?_ ?_
      · rintro dn acc γ ⟨L1, as, _, rfl⟩
        rfl
      · rintro dn s post acc γ eb ⟨L1, as, ht, rfl⟩
        have hs : s ∈ b := by rw [eb]; exact List.mem_append_right _ (List.mem_cons_self ..)
        have h1 := dep_mem hs
        walk_at "wb"
        refine ⟨(s, c, m, k), rfl, ⟨by show dep s ≤ d; omega, wfL_mem hw hs, hc, hm⟩, fun e L2 ⟨a, hn⟩ => ?_⟩
        refine ⟨L2, as ++ a, ?_, rfl⟩
        rw [show blD (dn ++ [s]) = blD dn ++ [stD s] by rw [blD_map, blD_map, List.map_append]; rfl]
        exact ht.snoc hn
      · rintro acc γ ⟨L1, as, ht, rfl⟩
        exact ⟨_, _, rfl, fun p hp => ⟨_, _, rfl, rfl, q _ _ _ (ht.lst hp)⟩⟩
    exact ⟨h1, cs (d + 1) h1⟩
theorem ok_Book_bodiesD (M : Blt mg) (hSeer : seerB K = true) (hTree : P.given.tree = none) (G_blocks_of : Gf K mg "blocks_of" s_blocks_of ["statement"]) (G_copied_statement : Gf K mg "copied_statement" s_copied_statement ["statement"]) (G_copied_block : Gf K mg "copied_block" s_copied_block ["block"]) (T_Book : Tc K mg "Book" ["many", "own", "run_memo", "deed_memo"]) (G_Book_bodies : Gm K T_Book.C "bodies" "Book.bodies" s_Book_bodies ["self"]) : FnOk P w K mg base CX0 10 G_Book_bodies.f G_Book_bodies.fd ["self"] (spB K (spec_bbD T_Book.C)) := by
  have H_copied_blockD := (ok_copiedD (P := P) (w := w) (base := base) M hSeer hTree G_blocks_of G_copied_statement G_copied_block 4).1
  refine fn_okB G_Book_bodies.F sc_Book_bodiesD (by decide) (fun ds L Q ⟨a, e, _⟩ => by rw [e]; rfl) fun cdv A outer s0 H E hr => ⟨_, _, (dss_one (ds_ret (de_newB 2 (df_lc (own := [("body", 1)]) rfl sc_Book_bodiesD.nd (di_list K (de_fld K (de_var 0))) (blkOk_by (by rfl)) (fun _ _ _ _ _ => (dg_name (i := 1) sc_Book_bodiesD.nd)) (gin_name (by decide)) gmo_name (fun _ _ _ _ _ => dts_nil) (fun _ _ _ _ _ => (de_callBx K 2 H_copied_blockD (hr.mono (by decide)) G_copied_block.g G_copied_block.F.kp G_copied_block.b (da_cons (de_var 1) da_nil))))))), ?_⟩
  rintro ds L Q ⟨⟨c, m, bs⟩, rfl, hB, q⟩
  have hf1 : Cls K T_Book.C ∧ NoAttr K T_Book.C "own" := T_Book.fld
  replace hB : okBk c m bs := hB
  replace q : ∀ e L' as, NewT L L' (.lst (blsD bs)) e as → Q e L' := fun e L' as h => q e L' ⟨as, h⟩
  have hbl := hB.2.2.2.2.len
  have hm3 := hB.2.2.2.1
  have hc3 := hB.2.1
  walk_at "wb"
  refine i_mapPJ (xs := bs) (fun b => .lst (blD b)) (fun dn acc γ => ∃ L1 as, NewTs L L1 (blsD dn) acc as ∧ γ = [.val (bookD T_Book.C c bs), .any, .hp true L1]) rfl (by omega) ⟨L, [], .nil, rfl⟩ ?_ ?_ ?_
  · rintro dn acc γ ⟨L1, as, _, rfl⟩
    rfl
  · rintro dn b post acc γ eb ⟨L1, as, ht, rfl⟩
    have hb : b ∈ bs := by rw [eb]; exact List.mem_append_right _ (List.mem_cons_self ..)
    have h1 := hB.2.2.2.2.body b hb
    have h2 := depB_wf h1.2.1
    walk_at "wb"
    refine ⟨(b, c, m, 3), rfl, ⟨by show depB b < 4; omega, h1.1, h1.2.1, hc3, hm3⟩, fun e L2 ⟨a, hn⟩ => ?_⟩
    refine ⟨L2, as ++ a, ?_, rfl⟩
    rw [show blsD (dn ++ [b]) = blsD dn ++ [.lst (blD b)] by rw [blsD, blsD, List.map_append]; rfl]
    exact ht.snoc hn
  · rintro acc γ ⟨L1, as, ht, rfl⟩
    exact ⟨_, _, rfl, fun p hp => ⟨_, _, rfl, rfl, q _ _ _ (ht.lst hp)⟩⟩
end

/-! ### a book made of boxes -/
open Bk
/-- a statement with its blocks -/
inductive BlkS : D → D → Prop
  | set {a b : D} : BlkS (.tup [.str "set", a, b]) (.lst [])
  | carry {a : D} : BlkS (.tup [.str "carry", a]) (.lst [])
  | end_ {a : D} : BlkS (.tup [.str "end", a]) (.lst [])
  | keep {a b : D} : BlkS (.tup [.str "keep", a, b]) (.lst [b])
  | again {a : D} : BlkS (.tup [.str "again", a]) (.lst [a])
  | either {a b : D} : BlkS (.tup [.str "either", a, b]) (.lst [a, b])
  | call {a b c : D} : BlkS (.tup [.str "call", a, b, c]) c
def spec_blkS : SpecD := .fn (fun a : D × D => [a.1]) (fun a => BlkS a.1 a.2) (fun a => .d a.2)
structure CsA where
  s : Sm
  e : D
  as : List Addr
  c : Nat
  m : Nat
  k : Nat
structure CbA where
  b : List Sm
  e : D
  as : List Addr
  c : Nat
  m : Nat
  k : Nat
def spec_csC (d : Nat) : SpecB := .fn (fun a : CsA => [a.e]) (fun a L => (dep a.s ≤ d ∧ okS a.c a.m a.k a.s) ∧ BxT L (stD a.s) a.e a.as) (fun a v L L' => v = stD a.s ∧ L' = L)
def spec_cbC (d : Nat) : SpecB := .fn (fun a : CbA => [a.e]) (fun a L => (depB a.b < d ∧ okB a.c a.m a.k a.b) ∧ BxT L (.lst (blD a.b)) a.e a.as) (fun a v L L' => v = .lst (blD a.b) ∧ L' = L)
section
variable {P : Program} {w : World} {K : PySem.W.Frag} {mg : Str → Option Value} {base : Heap}
theorem ok_blocks_ofS (M : Blt mg) (hSeer : seerB K = true) (hTree : P.given.tree = none) (G_blocks_of : Gf K mg "blocks_of" s_blocks_of ["statement"]) : FnOk P w K mg base CX0 1 G_blocks_of.f G_blocks_of.fd ["statement"] (spV K spec_blkS) := by
  refine fn_ok G_blocks_of.F sc_blocks_of (fun ds Q ⟨a, e, _⟩ => by rw [e]; rfl) fun cdv A outer s0 H E hr => ⟨_, _, (dss_one (ds_match (de_ix K (de_var 0) de_int) (dm_str pp_str (dss_one (ds_ret (DF.v (df_lst (da_cons (de_ix K (de_var 0) de_int) da_nil)))))
      (dm_str pp_str (dss_one (ds_ret (DF.v (df_lst (da_cons (de_ix K (de_var 0) de_int) da_nil)))))
      (dm_str pp_str (dss_one (ds_ret (DF.v (df_lst (da_cons (de_ix K (de_var 0) de_int) (da_cons (de_ix K (de_var 0) de_int) da_nil))))))
      (dm_str pp_str (dss_one (ds_ret (de_ix K (de_var 0) de_int)))
      (dm_any (dss_one (ds_ret (DF.v (df_lst da_nil))))))))))), ?_⟩
  rintro ds Q ⟨⟨e, f⟩, rfl, h, q⟩
  have h : BlkS e f := h
  replace q : Q (.d f) := q
  cases h <;> (walk_at "wr"; try exact q)
theorem ok_copiedC (M : Blt mg) (hSeer : seerB K = true) (hTree : P.given.tree = none) (G_blocks_of : Gf K mg "blocks_of" s_blocks_of ["statement"]) (G_copied_statement : Gf K mg "copied_statement" s_copied_statement ["statement"]) (G_copied_block : Gf K mg "copied_block" s_copied_block ["block"]) : ∀ d, FnOk P w K mg base CX0 (2 * d + 1) G_copied_block.f G_copied_block.fd ["block"] (spB K (spec_cbC d)) ∧ FnOk P w K mg base CX0 (2 * d + 1 + 1) G_copied_statement.f G_copied_statement.fd ["statement"] (spB K (spec_csC d)) := by
  have H_blocks_of := ok_blocks_ofS (P := P) (w := w) (K := K) (mg := mg) (base := base) M hSeer hTree G_blocks_of
  have cs : ∀ d, FnOk P w K mg base CX0 (2 * d + 1) G_copied_block.f G_copied_block.fd ["block"] (spB K (spec_cbC d)) → FnOk P w K mg base CX0 (2 * d + 1 + 1) G_copied_statement.f G_copied_statement.fd ["statement"] (spB K (spec_csC d)) := by
    intro d H_copied_blockC
    refine fn_okB G_copied_statement.F sc_copied_statementC (by decide) (fun ds L Q ⟨a, e, _⟩ => by rw [e]; rfl) fun cdv A outer s0 H E hr => ⟨_, _, (dss_cons (ds_setLcI 3 (i := 1) (own := [("block", 2)]) K rfl sc_copied_statementC.nd (de_call K H_blocks_of (hr.mono (by omega)) G_blocks_of.g G_blocks_of.F.kp G_blocks_of.b (da_cons (de_var 0) da_nil)) (blkOk_by (by rfl)) (fun _ _ _ _ _ => (dg_name (i := 2) sc_copied_statementC.nd)) (gin_name (by decide)) gmo_name (fun _ _ _ _ _ => (de_callBx K 3 H_copied_blockC (hr.mono (by omega)) G_copied_block.g G_copied_block.F.kp G_copied_block.b (da_cons (de_var 2) da_nil))))
      (dss_frz 1 (dss_one (ds_match (de_ix K (de_var 0) de_int) (dm_str pp_str (dss_one (ds_ret (de_tup (da_cons de_str (da_cons (de_ix K (de_var 0) de_int) (da_cons (DF.v (df_listB K 3 M.list (de_ix K (de_var 0) de_int))) da_nil))))))
      (dm_str pp_str (dss_one (ds_ret (de_tup (da_cons de_str (da_cons (DF.v (df_listB K 3 M.list (de_ix K (de_var 0) de_int))) da_nil)))))
      (dm_str pp_str (dss_one (ds_ret (de_tup (da_cons de_str (da_cons (DF.v (df_listB K 3 M.list (de_ix K (de_var 0) de_int))) (da_cons (de_ix K (de_var 1) de_int) da_nil))))))
      (dm_str (pp_or (pps_cons pp_str (pps_cons pp_str pps_nil))) (dss_one (ds_ret (de_tup (da_cons (de_ix K (de_var 0) de_int) (da_star K (de_var 1) da_nil)))))
      (dm_str pp_str (dss_one (ds_ret (de_tup (da_cons de_str (da_cons (de_ix K (de_var 0) de_int) (da_cons (DF.v (df_listB K 3 M.list (de_ix K (de_var 0) de_int))) (da_cons (de_var 1) da_nil)))))))
      (dm_any (dss_one (ds_ret (de_tup (da_cons de_str (da_cons (de_ix K (de_var 0) de_int) da_nil))))))))))))))), ?_⟩
    rintro ds L Q ⟨⟨s, e, as, c, m, k⟩, rfl, ⟨⟨hd, hs, hc, hm⟩, hb⟩, q⟩
    have hd : dep s ≤ d := hd
    have hs : wf c m k s := hs
    have hb : BxT L (stD s) e as := hb
    replace q : Q (stD s) L := q _ _ ⟨rfl, rfl⟩
    have blk : ∀ {b : List Sm} {x : D} {a : List Addr} (F : D → Bxs → Prop), b ∈ blocks s → BxT L (.lst (blD b)) x a → F (.lst (blD b)) L → (spec_cbC d).S [x] L F := fun {b x a} F hb hx hF => by
      have h1 := dep_blocks hb
      have h2 := wf_blocks hs hb
      exact ⟨⟨b, x, a, c, m, k - 1⟩, rfl, ⟨⟨by show depB b < d; omega, h2.2.1, h2.2.2, hc, hm⟩, hx⟩, fun v L' ⟨e1, e2⟩ => by subst e1 e2; exact hF⟩
    cases s with
    | set i r =>
      obtain ⟨es, rfl, k1⟩ := BxT.tup_inv hb
      obtain ⟨e1, es1, a1, b1, rfl, rfl, f1, k2⟩ := k1.cons_inv
      obtain ⟨e2, es2, a2, b2, rfl, rfl, f2, k3⟩ := k2.cons_inv
      obtain ⟨e3, es3, a3, b3, rfl, rfl, f3, k4⟩ := k3.cons_inv
      obtain ⟨rfl, rfl⟩ := k4.nil_inv
      obtain ⟨rfl, rfl⟩ := f1.str_inv
      obtain ⟨rfl, rfl⟩ := f2.int_inv
      obtain ⟨p, rfl, l⟩ := f3.ints_inv
      walk_at "wb"
      refine ⟨(_, _), rfl, .set, ?_⟩
      walk_at "wb"
      refine i_lcBm (xs := ([] : List Nat)) (fun _ => .non) (.inl rfl) rfl (Nat.zero_le _) rfl (fun i x e h => by cases h) ?_
      walk_at "wb"
      exact ⟨_, _, rfl, rfl, q⟩
    | carry r =>
      obtain ⟨es, rfl, k1⟩ := BxT.tup_inv hb
      obtain ⟨e1, es1, a1, b1, rfl, rfl, f1, k2⟩ := k1.cons_inv
      obtain ⟨e2, es2, a2, b2, rfl, rfl, f2, k3⟩ := k2.cons_inv
      obtain ⟨rfl, rfl⟩ := k3.nil_inv
      obtain ⟨rfl, rfl⟩ := f1.str_inv
      obtain ⟨p, rfl, l⟩ := f2.ints_inv
      walk_at "wb"
      refine ⟨(_, _), rfl, .carry, ?_⟩
      walk_at "wb"
      refine i_lcBm (xs := ([] : List Nat)) (fun _ => .non) (.inl rfl) rfl (Nat.zero_le _) rfl (fun i x e h => by cases h) ?_
      walk_at "wb"
      exact ⟨_, _, rfl, rfl, q⟩
    | end_ b =>
      obtain ⟨es, rfl, k1⟩ := BxT.tup_inv hb
      obtain ⟨e1, es1, a1, b1, rfl, rfl, f1, k2⟩ := k1.cons_inv
      obtain ⟨e2, es2, a2, b2, rfl, rfl, f2, k3⟩ := k2.cons_inv
      obtain ⟨rfl, rfl⟩ := k3.nil_inv
      obtain ⟨rfl, rfl⟩ := f1.str_inv
      obtain ⟨rfl, rfl⟩ := f2.int_inv
      walk_at "wb"
      refine ⟨(_, _), rfl, .end_, ?_⟩
      walk_at "wb"
      refine i_lcBm (xs := ([] : List Nat)) (fun _ => .non) (.inl rfl) rfl (Nat.zero_le _) rfl (fun i x e h => by cases h) ?_
      walk_at "wb"
      exact ⟨_, _, rfl, rfl, q⟩
    | keep cs b =>
      obtain ⟨es, rfl, k1⟩ := BxT.tup_inv hb
      obtain ⟨e1, es1, a1, b1, rfl, rfl, f1, k2⟩ := k1.cons_inv
      obtain ⟨e2, es2, a2, b2, rfl, rfl, f2, k3⟩ := k2.cons_inv
      obtain ⟨e3, es3, a3, b3, rfl, rfl, f3, k4⟩ := k3.cons_inv
      obtain ⟨rfl, rfl⟩ := k4.nil_inv
      obtain ⟨rfl, rfl⟩ := f1.str_inv
      obtain ⟨p, rfl, l⟩ := f2.ints_inv
      walk_at "wb"
      refine ⟨(_, _), rfl, .keep, ?_⟩
      walk_at "wb"
      refine i_lcBm (xs := [b]) (fun b => .lst (blD b)) (.inl rfl) rfl (by show 1 ≤ 100000; decide) rfl (fun i x e h1 h2 R hR => ?_) ?_
      · match i, h1, h2 with
        | 0, h1, h2 =>
          cases h1
          cases h2
          walk_at "wb"
          exact blk _ (List.mem_singleton.mpr rfl) f3 (hR _ rfl)
      walk_at "wb"
      exact ⟨_, _, rfl, rfl, q⟩
    | again b =>
      obtain ⟨es, rfl, k1⟩ := BxT.tup_inv hb
      obtain ⟨e1, es1, a1, b1, rfl, rfl, f1, k2⟩ := k1.cons_inv
      obtain ⟨e2, es2, a2, b2, rfl, rfl, f2, k3⟩ := k2.cons_inv
      obtain ⟨rfl, rfl⟩ := k3.nil_inv
      obtain ⟨rfl, rfl⟩ := f1.str_inv
      walk_at "wb"
      refine ⟨(_, _), rfl, .again, ?_⟩
      walk_at "wb"
      refine i_lcBm (xs := [b]) (fun b => .lst (blD b)) (.inl rfl) rfl (by show 1 ≤ 100000; decide) rfl (fun i x e h1 h2 R hR => ?_) ?_
      · match i, h1, h2 with
        | 0, h1, h2 =>
          cases h1
          cases h2
          walk_at "wb"
          exact blk _ (List.mem_singleton.mpr rfl) f2 (hR _ rfl)
      walk_at "wb"
      exact ⟨_, _, rfl, rfl, q⟩
    | either b1 b2 =>
      obtain ⟨es, rfl, k1⟩ := BxT.tup_inv hb
      obtain ⟨e1, es1, a1, bb1, rfl, rfl, f1, k2⟩ := k1.cons_inv
      obtain ⟨e2, es2, a2, bb2, rfl, rfl, f2, k3⟩ := k2.cons_inv
      obtain ⟨e3, es3, a3, b3, rfl, rfl, f3, k4⟩ := k3.cons_inv
      obtain ⟨rfl, rfl⟩ := k4.nil_inv
      obtain ⟨rfl, rfl⟩ := f1.str_inv
      walk_at "wb"
      refine ⟨(_, _), rfl, .either, ?_⟩
      walk_at "wb"
      refine i_lcBm (xs := [b1, b2]) (fun b => .lst (blD b)) (.inl rfl) rfl (by show 2 ≤ 100000; decide) rfl (fun i x e h1 h2 R hR => ?_) ?_
      · match i, h1, h2 with
        | 0, h1, h2 =>
          cases h1
          cases h2
          walk_at "wb"
          exact blk _ (List.mem_cons_self ..) f2 (hR _ rfl)
        | 1, h1, h2 =>
          cases h1
          cases h2
          walk_at "wb"
          exact blk _ (List.mem_cons_of_mem _ (List.mem_cons_self ..)) f3 (hR _ rfl)
      walk_at "wb"
      exact ⟨_, _, rfl, rfl, q⟩
    | call i r b1 b2 =>
      obtain ⟨es, rfl, k1⟩ := BxT.tup_inv hb
      obtain ⟨e1, es1, a1, bb1, rfl, rfl, f1, k2⟩ := k1.cons_inv
      obtain ⟨e2, es2, a2, bb2, rfl, rfl, f2, k3⟩ := k2.cons_inv
      obtain ⟨e3, es3, a3, b3, rfl, rfl, f3, k4⟩ := k3.cons_inv
      obtain ⟨e4, es4, a4, b4, rfl, rfl, f4, k5⟩ := k4.cons_inv
      obtain ⟨rfl, rfl⟩ := k5.nil_inv
      obtain ⟨rfl, rfl⟩ := f1.str_inv
      obtain ⟨rfl, rfl⟩ := f2.int_inv
      obtain ⟨p, rfl, l⟩ := f3.ints_inv
      obtain ⟨p2, es2', as2, rfl, rfl, l2, k6⟩ := f4.lst_inv
      obtain ⟨x1, xs1, c1, d1, rfl, rfl, g1, k7⟩ := k6.cons_inv
      obtain ⟨x2, xs2, c2, d2, rfl, rfl, g2, k8⟩ := k7.cons_inv
      obtain ⟨rfl, rfl⟩ := k8.nil_inv
      walk_at "wb"
      refine ⟨(_, _), rfl, .call, ?_⟩
      walk_at "wb"
      refine i_lcBm (xs := [b1, b2]) (fun b => .lst (blD b)) (.inr ⟨p2, rfl, _, _, rfl, l2⟩) rfl (by show 2 ≤ 100000; decide) rfl (fun i x e h1 h2 R hR => ?_) ?_
      · match i, h1, h2 with
        | 0, h1, h2 =>
          cases h1
          cases h2
          walk_at "wb"
          exact blk _ (List.mem_cons_self ..) g1 (hR _ rfl)
        | 1, h1, h2 =>
          cases h1
          cases h2
          walk_at "wb"
          exact blk _ (List.mem_cons_of_mem _ (List.mem_cons_self ..)) g2 (hR _ rfl)
      walk_at "wb"
      exact ⟨_, _, rfl, rfl, q⟩
  intro d
  induction d with
  | zero =>
    have h0 : FnOk P w K mg base CX0 (2 * 0 + 1) G_copied_block.f G_copied_block.fd ["block"] (spB K (spec_cbC 0)) := (fn_noneB fun ds L Q (h : (spec_cbC 0).S ds L Q) => let ⟨_, _, h, _⟩ := h; Nat.not_lt_zero _ h.1.1).mono (Nat.zero_le _)
    exact ⟨h0, cs 0 h0⟩
  | succ d ih =>
    have H_copied_statementC := ih.2
    have h1 : FnOk P w K mg base CX0 (2 * (d + 1) + 1) G_copied_block.f G_copied_block.fd ["block"] (spB K (spec_cbC (d + 1))) := by
      refine fn_okB G_copied_block.F sc_copied_blockC (by decide) (fun ds L Q ⟨a, e, _⟩ => by rw [e]; rfl) fun cdv A outer s0 H E hr => ⟨_, _, (dss_one (ds_ret (DF.v (df_lcB 2 (own := [("statement", 1)]) K rfl sc_copied_blockC.nd (de_var 0) (blkOk_by (by rfl)) (fun _ _ _ _ _ => (dg_name (i := 1) sc_copied_blockC.nd)) (gin_name (by decide)) gmo_name (fun _ _ _ _ _ => (de_callBx K 2 H_copied_statementC (hr.mono (by omega)) G_copied_statement.g G_copied_statement.F.kp G_copied_statement.b (da_cons (de_var 1) da_nil))))))), ?_⟩
      rintro ds L Q ⟨⟨b, e, as, c, m, k⟩, rfl, ⟨⟨hd, hb, hw, hc, hm⟩, hx⟩, q⟩
      have hd : depB b < d + 1 := hd
      have hb : b.length ≤ 8 := hb
      have hw : wfL c m k b := hw
      have hx : BxT L (.lst (blD b)) e as := hx
      replace q : Q (.lst (blD b)) L := q _ _ ⟨rfl, rfl⟩
      obtain ⟨p, es, as', rfl, rfl, l, k1⟩ := hx.lst_inv
      have hl := k1.len
      rw [blD_len] at hl
      walk_at "wb"
      refine i_lcBm (xs := b) stD (.inr ⟨p, rfl, _, _, rfl, l⟩) hl (by omega) rfl (fun i s e h1 h2 R hR => ?_) ?_
      · have hs : s ∈ b := List.mem_of_getElem? h1
        have hds := dep_mem hs
        obtain ⟨a, ha⟩ := k1.item (by rw [blD_map, List.getElem?_map, h1]; rfl) h2
        walk_at "wb"
        refine ⟨⟨s, e, a, c, m, k⟩, rfl, ⟨⟨by show dep s ≤ d; omega, wfL_mem hw hs, hc, hm⟩, ha⟩, fun v L' ⟨e1, e2⟩ => ?_⟩
        subst e1 e2
        walk_at "wb"
        exact hR _ rfl
      · walk_at "wb"
        rw [← blD_map]
        exact ⟨_, _, rfl, rfl, q⟩
    exact ⟨h1, cs (d + 1) h1⟩
end

/-! ### the constructor over boxes -/
open Bk
theorem subX_int {L : Bxs} {i : Int} : subX L (.int i) = .int i := by unfold subX; rfl
structure BiA where
  c : Nat
  m : Nat
  bs : List (List Sm)
  p : Addr
  e : D
  as : List Addr
def spec_initC (C : Addr) : SpecB := .fn (fun a : BiA => [.ref a.p, .int (a.c : Nat), a.e]) (fun a L => okBk a.c a.m a.bs ∧ L a.p = some (.ins C []) ∧ BxT L (.lst (blsD a.bs)) a.e a.as ∧ a.p ∉ a.as) (fun a v L L' => v = .non ∧ L' a.p = some (.ins C (bookF a.c a.bs)) ∧ ∀ x, x ≠ a.p → L' x = L x)
section
variable {P : Program} {w : World} {K : PySem.W.Frag} {mg : Str → Option Value} {base : Heap}
theorem ok_Book_initC (M : Blt mg) (hSeer : seerB K = true) (hTree : P.given.tree = none) (G_is_integer : Gf K mg "is_integer" s_is_integer ["value"]) (G_is_vector : Gf K mg "is_vector" s_is_vector ["value", "width"]) (G_is_bit : Gf K mg "is_bit" s_is_bit ["value"]) (G_is_index : Gf K mg "is_index" s_is_index ["value", "many"]) (G_is_row : Gf K mg "is_row" s_is_row ["value", "cells"]) (G_are_cells : Gf K mg "are_cells" s_are_cells ["value", "cells"]) (G_blocks_of : Gf K mg "blocks_of" s_blocks_of ["statement"]) (G_copied_statement : Gf K mg "copied_statement" s_copied_statement ["statement"]) (G_copied_block : Gf K mg "copied_block" s_copied_block ["block"]) (T_SIZES : Dc K w mg "SIZES" [("set", 3), ("carry", 2), ("keep", 3), ("either", 3), ("again", 2), ("call", 4), ("end", 2)] []) (G_is_word : Gf K mg "is_word" s_is_word ["value"]) (G_is_command : Gf K mg "is_command" s_is_command ["value", "cells"]) (hDEEPEST : ∃ t, mg "DEEPEST" = some (.int 3 t)) (G_has_form : Gf K mg "has_form" s_has_form ["value", "level", "cells", "many"]) (hMOST_IN_LIST : ∃ t, mg "MOST_IN_LIST" = some (.int 8 t)) (hMOST_IN_PROCEDURE : ∃ t, mg "MOST_IN_PROCEDURE" = some (.int 12 t)) (G_first_fault : Gf K mg "first_fault" s_first_fault ["block", "level", "form", "path", "met"]) (hMOST_CELLS : ∃ t, mg "MOST_CELLS" = some (.int 3 t)) (hMOST_PROCEDURES : ∃ t, mg "MOST_PROCEDURES" = some (.int 3 t)) (T_Book : Tc K mg "Book" ["many", "own", "run_memo", "deed_memo"]) (G_Book_init : Gm K T_Book.C "__init__" "Book.__init__" s_Book_init ["self", "cells", "bodies"]) : FnOk P w K mg base CX0 11 G_Book_init.f G_Book_init.fd ["self", "cells", "bodies"] (spB K (spec_initC T_Book.C)) := by
  have H_is_integer := ok_is_integer (P := P) (w := w) (base := base) M hSeer hTree G_is_integer
  have H_copied_blockC := (ok_copiedC (P := P) (w := w) (base := base) M hSeer hTree G_blocks_of G_copied_statement G_copied_block 4).1
  have H_first_fault := ok_first_fault (P := P) (w := w) (base := base) M hSeer hTree G_is_integer G_is_vector G_is_bit G_is_index G_is_row G_are_cells G_blocks_of T_SIZES G_is_word G_is_command hDEEPEST G_has_form hMOST_IN_LIST hMOST_IN_PROCEDURE G_first_fault 4
  refine fn_okB G_Book_init.F sc_Book_initC (by decide) (fun ds L Q ⟨a, e, _⟩ => by rw [e]; rfl) fun cdv A outer s0 H E hr => ⟨_, _, (dss_cons (ds_if (DW.dt (dw_or (dt_not (dt_tr K (de_call K H_is_integer (hr.mono (by decide)) G_is_integer.g G_is_integer.F.kp G_is_integer.b (da_cons (de_var 1) da_nil)))) (dw_or1 (dt_not (dt_chain op_le ops_le op_le ops_le de_int (de_var 1) (de_globI hMOST_CELLS)))))) (dss_one ds_no) dss_nil)
      (dss_cons (ds_if (dt_lendN 24 7 (DW.dt (dw_or (dt_not (dt_tr K (de_isi K kit_L M.isinstance M.list (by decide +kernel) (de_var 2)))) (dw_or1 (dt_not (dt_chain op_le ops_le op_le ops_le de_int (de_callB cs_len call_len_seq M.len PySem.boot_len (da_cons (de_var 2) da_nil)) (de_globI hMOST_PROCEDURES))))))) (dss_one ds_no) dss_nil)
      (dss_cons (ds_forEB K 7 PassesOwn.never rfl M.enumerate (da_cons (de_var 2) da_nil) (dg_tup K (n := 2) rfl (dgs_cons (dg_name (i := 3) sc_Book_initC.nd) (dgs_cons (dg_name (i := 4) sc_Book_initC.nd) dgs_nil))) (dss_cons (ds_if (dt_lendN 24 7 (dt_not (dt_tr K (de_isi K kit_L M.isinstance M.list (by decide +kernel) (de_var 4))))) (dss_one ds_no) dss_nil)
      (dss_cons (ds_asg (de_lendN 24 7 (de_call K H_first_fault (hr.mono (by decide)) G_first_fault.g G_first_fault.F.kp G_first_fault.b (da_cons (de_var 4) (da_cons de_int (da_cons (de_tup (da_cons (de_var 1) (da_cons (de_callB cs_len call_len_seq M.len PySem.boot_len (da_cons (de_var 2) da_nil)) da_nil))) (da_cons (de_tup da_nil) (da_cons de_int da_nil))))))) (dg_tup K (n := 2) rfl (dgs_cons (dg_name (i := 5) sc_Book_initC.nd) (dgs_cons (dg_name (i := 6) sc_Book_initC.nd) dgs_nil))))
      (dss_one (ds_if (dt_notN (de_var 5)) (dss_one ds_no) dss_nil)))))
      (dss_cons (ds_putB K 7 (de_var 0) (de_var 1))
      (dss_any 4 (dss_cons (ds_putB K 7 (de_var 0) (DF.v (df_lcB 7 (own := [("body", 4)]) K rfl sc_Book_initC.nd (de_var 2) (blkOk_by (by rfl)) (fun _ _ _ _ _ => (dg_name (i := 4) sc_Book_initC.nd)) (gin_name (by decide)) gmo_name (fun _ _ _ _ _ => (de_callBx K 7 H_copied_blockC (hr.mono (by decide)) G_copied_block.g G_copied_block.F.kp G_copied_block.b (da_cons (de_var 4) da_nil))))))
      (dss_cons (ds_putB K 7 (de_var 0) de_non)
      (dss_one (ds_putB K 7 (de_var 0) de_non))))))))), ?_⟩
  rintro ds L Q ⟨⟨c, m, bs, p, e, as⟩, rfl, ⟨⟨hc1, hc3, hm1, hm3, hb⟩, hp, hx, hn⟩, q⟩
  replace hc1 : 1 ≤ c := hc1
  replace hc3 : c ≤ 3 := hc3
  replace hm1 : 1 ≤ m := hm1
  replace hm3 : m ≤ 3 := hm3
  replace hb : Bodies c m bs := hb
  replace hp : L p = some (.ins T_Book.C []) := hp
  replace hx : BxT L (.lst (blsD bs)) e as := hx
  replace hn : p ∉ as := hn
  replace q : ∀ L', L' p = some (.ins T_Book.C (bookF c bs)) → (∀ x, x ≠ p → L' x = L x) → Q .non L' := fun L' h1 h2 => q _ L' ⟨rfl, h1, h2⟩
  have hbl := hb.len
  have hdp : Dep 24 (.lst (blsD bs)) := Dep.le (by decide) (sdep_bls hb hc3 hm3).dep
  have hf1 : Cls K T_Book.C ∧ NoAttr K T_Book.C "many" := T_Book.fld
  have hf2 : Cls K T_Book.C ∧ NoAttr K T_Book.C "own" := T_Book.fld
  have hf3 : Cls K T_Book.C ∧ NoAttr K T_Book.C "run_memo" := T_Book.fld
  have hf4 : Cls K T_Book.C ∧ NoAttr K T_Book.C "deed_memo" := T_Book.fld
  have s1 := BxT.sub 24 _ e as hdp hx
  obtain ⟨p0, es, as', rfl, rfl, l, k1⟩ := hx.lst_inv
  have hl := k1.len
  rw [blsD_len] at hl
  have hne : p0 ≠ p := fun z => by rw [z, hp] at l; cases l
  walk_at "wb"
  refine ⟨.int (c : Nat), rfl, trivial, ?_⟩
  walk_at "wb"
  rw [s1]
  walk_at "wb"
  rw [s1]
  walk_at "wb"
  refine ⟨p0, es, rfl, i_onBox rfl l, fun i γ => ∃ (s3 s4 s5 s6 : Sl), γ = [.val (.ref p), .val (.int (c : Nat)), .val (.ref p0), s3, s4, s5, s6, .hp true L], ⟨_, _, _, _, rfl⟩, ?_, ?_⟩
  · rintro i x γ hxi ⟨s3, s4, s5, s6, rfl⟩
    have hi : i < bs.length := by rw [← hl]; exact (List.getElem?_eq_some_iff.mp hxi).1
    have hg : bs[i]? = some bs[i] := List.getElem?_eq_getElem hi
    have hbm : bs[i] ∈ bs := List.getElem_mem hi
    generalize bs[i] = b at hg hbm
    have hgD : (blsD bs)[i]? = some (.lst (blD b)) := by rw [blsD, List.getElem?_map, hg]; rfl
    obtain ⟨a, ha⟩ := k1.item hgD hxi
    have s2 := BxT.sub 24 _ x a (Dep.mono (hdp.2 _ (List.mem_of_getElem? hgD))) ha
    have h1 := hb.body b hbm
    have h2 := depB_wf h1.2.1
    refine ⟨i_onBox rfl l, ?_⟩
    walk_at "wb"
    rw [s2]
    walk_at "wb"
    rw [s1, s2]
    walk_at "wb"
    rw [subX_int, blsD_len, hbl]
    refine ⟨(b, c, m, 0, [], 0), rfl, ⟨by show depB b < 4; omega, by show 0 ≤ 3; omega, ⟨h1.1, h1.2.1, hc3, hm3⟩, by show 0 + 2 * 4 ≤ 1000; omega, by show 0 + cntB b ≤ 12; omega⟩, ?_⟩
    refine ⟨rfl, ?_⟩
    walk_at "wb"
    exact ⟨_, _, _, _, rfl⟩
  · rintro γ ⟨s3, s4, s5, s6, rfl⟩
    refine ⟨i_onBox rfl l, ?_⟩
    walk_at "wb"
    have hn' : p ∉ as' := fun z => hn (List.mem_cons_of_mem _ z)
    have k2 : BxTs (updB L p (.ins T_Book.C (putD "many" (.int (c : Nat)) []))) (blsD bs) es as' := BxTs.mono _ _ _ (fun x hx => updB_ne fun z => hn' (z ▸ hx)) k1
    refine i_lcBm (xs := bs) (fun b => .lst (blD b)) (.inr ⟨p0, rfl, _, _, rfl, (updB_ne hne).trans l⟩) hl (by omega) rfl (fun i b x h1 h2 R hR => ?_) ?_
    · have hbm := List.mem_of_getElem? h1
      have g1 := hb.body b hbm
      have g2 := depB_wf g1.2.1
      obtain ⟨a, ha⟩ := k2.item (by rw [blsD, List.getElem?_map, h1]; rfl) h2
      walk_at "wb"
      refine ⟨⟨b, x, a, c, m, 3⟩, rfl, ⟨⟨by show depB b < 4; omega, g1.1, g1.2.1, hc3, hm3⟩, ha⟩, fun v L' ⟨e1, e2⟩ => ?_⟩
      subst e1 e2
      walk_at "wb"
      exact hR _ rfl
    walk_at "wb"
    exact ⟨_, rfl, q _ updB_same fun x hx => (updB_ne hx).trans ((updB_ne hx).trans ((updB_ne hx).trans (updB_ne hx)))⟩
end

/-! ### the bodies with one number turned -/
abbrev s_L_turned : Stmt := topS 45
theorem sc_L_turned : FnScope ["_law_value", "_law_left", "_law_row_here", "_law_item", "$"] ["_law_value", "_law_left"] (defScope s_L_turned) := ⟨rfl, rfl, rfl, by decide +kernel, rfl, by decide +kernel, by decide +kernel⟩

open Bk
def turnR : List Int → List Int
  | [] => []
  | x :: r => (if x = 1 then 0 else 1) :: r
mutual
def trS : Sm → Bool → Sm × Bool
  | .set i r, f => if f = true then (.set i r, f) else (.set i (turnR r), true)
  | .carry r, f => if f = true then (.carry r, f) else (.carry (turnR r), true)
  | .end_ b, f => (.end_ b, f)
  | .keep cs b, f => (.keep cs (trB b f).1, (trB b f).2)
  | .again b, f => (.again (trB b f).1, (trB b f).2)
  | .either a b, f => (.either (trB a f).1 (trB b (trB a f).2).1, (trB b (trB a f).2).2)
  | .call i r a b, f => (.call i r (trB a f).1 (trB b (trB a f).2).1, (trB b (trB a f).2).2)
def trB : List Sm → Bool → List Sm × Bool
  | [], f => ([], f)
  | s :: b, f => ((trS s f).1 :: (trB b (trS s f).2).1, (trB b (trS s f).2).2)
end
def trBs : List (List Sm) → Bool → List (List Sm) × Bool
  | [], f => ([], f)
  | s :: b, f => ((trB s f).1 :: (trBs b (trB s f).2).1, (trBs b (trB s f).2).2)
/-- what is turned -/
inductive TA where
  | ts (s : Sm)
  | tb (b : List Sm)
  | tbs (bs : List (List Sm))
  | tz (d : D)
def TA.toD : TA → D
  | .ts s => stD s
  | .tb b => .lst (blD b)
  | .tbs bs => .lst (blsD bs)
  | .tz d => d
def TA.tr : TA → Bool → TA × Bool
  | .ts s, f => (.ts (trS s f).1, (trS s f).2)
  | .tb b, f => (.tb (trB b f).1, (trB b f).2)
  | .tbs bs, f => (.tbs (trBs bs f).1, (trBs bs f).2)
  | .tz d, f => (.tz d, f)
def trT : List TA → Bool → List TA × Bool
  | [], f => ([], f)
  | x :: r, f => ((x.tr f).1 :: (trT r (x.tr f).2).1, (trT r (x.tr f).2).2)
/-- an int, a text, a list of ints -/
def Zd : D → Prop
  | .int _ => True
  | .str _ => True
  | .lst ds => ds.length ≤ 1000 ∧ ∀ x ∈ ds, ∃ i, x = .int i
  | _ => False
def TA.ok (c m : Nat) : TA → Prop
  | .ts s => ∃ k, wf c m k s
  | .tb b => b.length ≤ 8 ∧ ∃ k, wfL c m k b
  | .tbs bs => bs.length ≤ 3 ∧ ∀ b ∈ bs, b.length ≤ 8 ∧ ∃ k, wfL c m k b
  | .tz d => Zd d
def fI (f : Bool) : Int := if f = true then 1 else 0
structure TuA where
  x : TA
  f : Bool
  q : Addr
  c : Nat
  m : Nat
def spec_lturn (k : Nat) : SpecB := .fn (fun a : TuA => [a.x.toD, .ref a.q]) (fun a L => (Sd k a.x.toD ∧ a.c ≤ 3 ∧ a.x.ok a.c a.m) ∧ L a.q = some (.lst [.int (fI a.f)])) (fun a v L L' => v = (a.x.tr a.f).1.toD ∧ L' a.q = some (.lst [.int (fI (a.x.tr a.f).2)]) ∧ ∀ x, x ≠ a.q → L' x = L x)
theorem turn_at (x : Int) : atI [D.int 1, .int 0] (if decide (x = 1) = true then 1 else 0) = some (.int (if x = 1 then 0 else 1)) := by
  by_cases h : x = 1
  · rw [if_pos (decide_eq_true h), if_pos h]
    exact atI_of (i := 1) rfl
  · rw [if_neg (fun z => h (of_decide_eq_true z)), if_neg h]
    exact atI_of (i := 0) rfl
theorem two2 {c m : Nat} {a b : List Sm} (ha : a.length ≤ 8 ∧ ∃ k, wfL c m k a) (hb : b.length ≤ 8 ∧ ∃ k, wfL c m k b) : ∀ y ∈ [a, b], y.length ≤ 8 ∧ ∃ k, wfL c m k y := fun y hy => by
  rcases List.mem_cons.mp hy with rfl | hy
  · exact ha
  · rw [List.mem_singleton.mp hy]; exact hb
theorem trT_snoc (x : TA) : ∀ (xs : List TA) (f : Bool), trT (xs ++ [x]) f = ((trT xs f).1 ++ [(x.tr (trT xs f).2).1], (x.tr (trT xs f).2).2)
  | [], f => rfl
  | y :: xs, f => by
    show ((y.tr f).1 :: (trT (xs ++ [x]) (y.tr f).2).1, (trT (xs ++ [x]) (y.tr f).2).2) = _
    rw [trT_snoc x xs]
    rfl
theorem i_turn {k c m : Nat} {q : Addr} {v : D} {f : Bool} {L : Bxs} {QF : List D → List Sl → Prop} (xs : List TA) (hx : ∀ x ∈ xs, Sd k x.toD ∧ c ≤ 3 ∧ x.ok c m) (hl : xs.length ≤ 100000) (hq : L q = some (.lst [.int (fI f)]))
    (fin : ∀ L', L' q = some (.lst [.int (fI (trT xs f).2)]) → (∀ x, x ≠ q → L' x = L x) → QF ((trT xs f).1.map TA.toD) [.val v, .val (.ref q), .any, .any, .hp true L']) :
    LcG (xs.map TA.toD) [.val v, .val (.ref q), .any, .any, .hp true L] (dName 3) dYes (dCallBx 4 (spec_lturn k) (dCons (dVar 3) (dCons (dVar 1) dNil))) [3] QF := by
  refine i_mapPJ (xs := xs) TA.toD (fun dn acc γ => ∃ L1, acc = (trT dn f).1.map TA.toD ∧ L1 q = some (.lst [.int (fI (trT dn f).2)]) ∧ (∀ x, x ≠ q → L1 x = L x) ∧ γ = [.val v, .val (.ref q), .any, .any, .hp true L1]) rfl hl ⟨L, rfl, hq, fun _ _ => rfl, rfl⟩ ?_ ?_ ?_
  · rintro dn acc γ ⟨L1, _, _, _, rfl⟩
    rfl
  · rintro dn x post acc γ eb ⟨L1, rfl, h1, h2, rfl⟩
    have hxm : x ∈ xs := by rw [eb]; exact List.mem_append_right _ (List.mem_cons_self ..)
    walk_at "wb"
    refine ⟨⟨x, (trT dn f).2, q, c, m⟩, rfl, ⟨hx x hxm, h1⟩, fun y L2 ⟨e1, e2, e3⟩ => ?_⟩
    refine ⟨L2, ?_, ?_, fun z hz => (e3 z hz).trans (h2 z hz), rfl⟩
    · rw [trT_snoc, e1, List.map_append]
      rfl
    · rw [trT_snoc]
      exact e2
  · rintro acc γ ⟨L1, rfl, h1, h2, rfl⟩
    exact fin L1 h1 h2
theorem trT_s : ∀ (b : List Sm) (f : Bool), (trT (b.map TA.ts) f).1.map TA.toD = blD (trB b f).1 ∧ (trT (b.map TA.ts) f).2 = (trB b f).2
  | [], f => by unfold trB; exact ⟨rfl, rfl⟩
  | s :: b, f => by
    obtain ⟨h1, h2⟩ := trT_s b (trS s f).2
    unfold trB
    exact ⟨by show stD (trS s f).1 :: (trT (b.map TA.ts) (trS s f).2).1.map TA.toD = stD (trS s f).1 :: blD (trB b (trS s f).2).1; rw [h1], h2⟩
theorem trT_b : ∀ (b : List (List Sm)) (f : Bool), (trT (b.map TA.tb) f).1.map TA.toD = blsD (trBs b f).1 ∧ (trT (b.map TA.tb) f).2 = (trBs b f).2
  | [], f => ⟨rfl, rfl⟩
  | s :: b, f => by
    obtain ⟨h1, h2⟩ := trT_b b (trB s f).2
    exact ⟨by show D.lst (blD (trB s f).1) :: (trT (b.map TA.tb) (trB s f).2).1.map TA.toD = D.lst (blD (trB s f).1) :: blsD (trBs b (trB s f).2).1; rw [h1], h2⟩
theorem trT_z : ∀ (ds : List D) (f : Bool), (trT (ds.map TA.tz) f).1.map TA.toD = ds ∧ (trT (ds.map TA.tz) f).2 = f
  | [], f => ⟨rfl, rfl⟩
  | d :: ds, f => by
    obtain ⟨h1, h2⟩ := trT_z ds f
    exact ⟨by show d :: (trT (ds.map TA.tz) f).1.map TA.toD = _; rw [h1], h2⟩
section
variable {P : Program} {w : World} {K : PySem.W.Frag} {mg : Str → Option Value} {base : Heap}
theorem ok_L_turned (M : Blt mg) (hSeer : seerB K = true) (hTree : P.given.tree = none) (G_L_turned : Gf K mg "_law_turned" s_L_turned ["_law_value", "_law_left"]) : ∀ k, FnOk P w K mg base CX0 k G_L_turned.f G_L_turned.fd ["_law_value", "_law_left"] (spB K (spec_lturn k)) := by
  intro k
  induction k with
  | zero => exact fn_noneB fun ds L Q ⟨a, _, h, _⟩ => h.1.1
  | succ k H_L_turned =>
    refine fn_okB G_L_turned.F sc_L_turned (by decide) (fun ds L Q ⟨a, e, _⟩ => by rw [e]; rfl) fun cdv A outer s0 H E hr => ⟨_, _, (dss_cons (ds_if (DW.dt (dw_and (dt_tr K (de_isi K kit_U M.isinstance M.tuple (by decide +kernel) (de_var 0))) (dw_and (dt_inL K (de_ix K (de_var 0) de_int) (DF.v (df_lst (da_cons de_str (da_cons de_str da_nil))))) (dw_and1 (dt_eq (de_ixB K 4 (de_var 1) de_int) de_int))))) (dss_cons (ds_subB 4 (de_var 1) de_int de_int)
      (dss_cons (ds_setO (i := 2) sc_L_turned.nd (df_list K M.list (de_ix K (de_var 0) (de_sub (de_callB cs_len call_len_seq M.len PySem.boot_len (da_cons (de_var 0) da_nil)) de_int))))
      (dss_cons (ds_sub 2 (de_ix K (DF.v (df_lst (da_cons de_int (da_cons de_int da_nil)))) (de_callTy cs_int call_int1 M.int (by decide +kernel) (da_cons (de_eq (de_ixO K 2 de_int) de_int) da_nil))) de_int)
      (dss_frz 2 (dss_one (ds_ret (de_catT K (de_slT K (de_var 0) do_none (do_some (de_sub (de_callB cs_len call_len_seq M.len PySem.boot_len (da_cons (de_var 0) da_nil)) de_int))) (de_tup (da_cons (de_var 2) da_nil))))))))) dss_nil)
      (dss_cons (ds_if (dt_tr K (de_isi K kit_L M.isinstance M.list (by decide +kernel) (de_var 0))) (dss_one (ds_ret (DF.v (df_lc (own := [("_law_item", 3)]) rfl sc_L_turned.nd (di_list K (de_var 0)) (blkOk_by (by rfl)) (fun _ _ _ _ _ => (dg_name (i := 3) sc_L_turned.nd)) (gin_name (by decide)) gmo_name (fun _ _ _ _ _ => dts_nil) (fun _ _ _ _ _ => (de_callBx K 4 H_L_turned (hr.mono (by omega)) G_L_turned.g G_L_turned.F.kp G_L_turned.b (da_cons (de_var 3) (da_cons (de_var 1) da_nil)))))))) dss_nil)
      (dss_cons (ds_if (dt_tr K (de_isi K kit_U M.isinstance M.tuple (by decide +kernel) (de_var 0))) (dss_one (ds_ret (de_tupleOf K M.tuple (DF.v (df_lc (own := [("_law_item", 3)]) rfl sc_L_turned.nd (di_tup K (de_var 0)) (blkOk_by (by rfl)) (fun _ _ _ _ _ => (dg_name (i := 3) sc_L_turned.nd)) (gin_name (by decide)) gmo_name (fun _ _ _ _ _ => dts_nil) (fun _ _ _ _ _ => (de_callBx K 4 H_L_turned (hr.mono (by omega)) G_L_turned.g G_L_turned.F.kp G_L_turned.b (da_cons (de_var 3) (da_cons (de_var 1) da_nil))))))))) dss_nil)
      (dss_one (ds_ret (de_var 0)))))), ?_⟩
    rintro ds L Q ⟨⟨x, f, q0, c, m⟩, rfl, ⟨⟨hd, hc, hk⟩, hq⟩, q⟩
    have hd : Sd (k + 1) x.toD := hd
    have hc : c ≤ 3 := hc
    have hk : x.ok c m := hk
    have hq : L q0 = some (.lst [.int (fI f)]) := hq
    replace q : ∀ L', L' q0 = some (.lst [.int (fI (x.tr f).2)]) → (∀ z, z ≠ q0 → L' z = L z) → Q (x.tr f).1.toD L' := fun L' h1 h2 => q _ L' ⟨rfl, h1, h2⟩
    show dSeq _ _ _ ([.val x.toD, .val (.ref q0), .any, .any, .hp true L] : List Sl)
    cases x with
    | tb b =>
      have hb : b.length ≤ 8 ∧ ∃ k, wfL c m k b := hk
      obtain ⟨h1, h2⟩ := trT_s b f
      dsimp only [TA.toD] at hd ⊢
      walk_at "wb"
      rw [show blD b = (b.map TA.ts).map TA.toD by rw [List.map_map, blD_map]; rfl]
      refine i_turn (c := c) (m := m) (b.map TA.ts) (fun x hx => ?_) (by rw [List.length_map]; omega) hq fun L' g1 g2 => ?_
      · obtain ⟨s, hs, rfl⟩ := List.mem_map.mp hx
        obtain ⟨j, hw⟩ := hb.2
        exact ⟨hd.2 _ (by rw [blD_map]; exact List.mem_map_of_mem hs), hc, j, wfL_mem hw hs⟩
      · rw [h1]
        rw [h2] at g1
        exact ⟨_, _, rfl, rfl, q L' g1 g2⟩
    | tbs bs =>
      have hb : bs.length ≤ 3 ∧ ∀ b ∈ bs, b.length ≤ 8 ∧ ∃ k, wfL c m k b := hk
      obtain ⟨h1, h2⟩ := trT_b bs f
      dsimp only [TA.toD] at hd ⊢
      walk_at "wb"
      rw [show blsD bs = (bs.map TA.tb).map TA.toD by rw [List.map_map]; rfl]
      refine i_turn (c := c) (m := m) (bs.map TA.tb) (fun x hx => ?_) (by rw [List.length_map]; omega) hq fun L' g1 g2 => ?_
      · obtain ⟨b, hb', rfl⟩ := List.mem_map.mp hx
        exact ⟨hd.2 _ (List.mem_map_of_mem hb'), hc, hb.2 b hb'⟩
      · rw [h1]
        rw [h2] at g1
        exact ⟨_, _, rfl, rfl, q L' g1 g2⟩
    | tz d =>
      have hz : Zd d := hk
      dsimp only [TA.toD] at hd ⊢
      cases d with
      | lst ds =>
        have hz : ds.length ≤ 1000 ∧ ∀ x ∈ ds, ∃ i, x = .int i := hz
        obtain ⟨h1, h2⟩ := trT_z ds f
        walk_at "wb"
        rw [show ds = (ds.map TA.tz).map TA.toD by rw [List.map_map]; exact (List.map_id ds).symm]
        refine i_turn (c := c) (m := m) (ds.map TA.tz) (fun x hx => ?_) (by rw [List.length_map]; omega) hq fun L' g1 g2 => ?_
        · obtain ⟨y, hy, rfl⟩ := List.mem_map.mp hx
          obtain ⟨i, rfl⟩ := hz.2 y hy
          exact ⟨hd.2 _ hy, hc, trivial⟩
        · rw [h1]
          rw [h2] at g1
          exact ⟨_, _, rfl, rfl, q L' g1 g2⟩
      | int i =>
        walk_at "wb"
        exact ⟨_, _, rfl, rfl, q L hq fun _ _ => rfl⟩
      | str s =>
        walk_at "wb"
        exact ⟨_, _, rfl, rfl, q L hq fun _ _ => rfl⟩
      | _ => exact hz.elim
    | ts s =>
      obtain ⟨j, hw⟩ : ∃ j, wf c m j s := hk
      have in2 : ∀ {t : Str} {b : Bool} {R : D → Prop}, inV (.str t) [.str "set", .str "carry"] = b → R (.bl b) → fInL false (.str t) (.lst [.str "set", .str "carry"]) R := fun hb hR => ⟨_, .str _, [.str "set", .str "carry"], .inl rfl, rfl, rfl, by subst hb; exact hR⟩
      have al : ∀ (xs : List TA), stD s = .tup (xs.map TA.toD) → (∀ x ∈ xs, x.ok c m) → ∀ x ∈ xs, Sd k x.toD ∧ c ≤ 3 ∧ x.ok c m := fun xs e h x hx => by
        have hd : Sd (k + 1) (stD s) := hd
        rw [e] at hd
        exact ⟨hd.2 _ (List.mem_map_of_mem hx), hc, h x hx⟩
      cases s with
      | set i r =>
        have hr : Row c r := by unfold wf at hw; exact hw.2
        obtain ⟨x0, r0, rfl⟩ : ∃ x0 r0, r = x0 :: r0 := by
          cases r with
          | nil => exact absurd hr.1 (by simp)
          | cons a b => exact ⟨a, b, rfl⟩
        dsimp only [TA.toD] at hd ⊢
        simp only [stD]
        walk_at "wb"
        refine in2 (b := true) (by decide +kernel) ?_
        walk_at "wb"
        cases f with
        | true =>
          walk_at "wb"
          show LcG (([.tz (.str "set"), .tz (.int (i : Nat)), .tz (.lst (il (x0 :: r0)))] : List TA).map TA.toD) _ _ _ _ _ _
          refine i_turn (c := c) (m := m) [.tz (.str "set"), .tz (.int (i : Nat)), .tz (.lst (il (x0 :: r0)))] (al _ rfl ?_) (Nat.le_of_ble_eq_true rfl) hq fun L' g1 g2 => ⟨_, .inl rfl, _, _, rfl, rfl, ?_⟩
          · intro x hx
            simp only [List.mem_cons, List.not_mem_nil, or_false] at hx
            rcases hx with rfl | rfl | rfl
            · exact trivial
            · exact trivial
            · exact ⟨by show (List.map _ _).length ≤ 1000; rw [List.length_map]; have := hr.1; omega, fun x hx => by obtain ⟨i, _, rfl⟩ := List.mem_map.mp hx; exact ⟨i, rfl⟩⟩

          · have e := q L' (by unfold TA.tr trS; exact g1) g2
            unfold TA.tr trS at e
            exact e
        | false =>
          walk_at "wb"
          refine ⟨0, _, _, .int x0, rfl, rfl, atI_of (i := 0) rfl, ?_⟩
          walk_at "wb"
          refine i_ixL (d := .int (if x0 = 1 then 0 else 1)) (turn_at x0) ?_
          refine ⟨⟨_, _, rfl⟩, ?_⟩
          walk_at "wb"
          refine ⟨0, _, _, 0, rfl, rfl, (show ixN _ ((0 : Nat) : Int) = some 0 from ixN_n (by show 0 < (List.map _ _).length; rw [List.length_map, List.length_cons]; omega)), (fun z => by cases z), ?_⟩
          walk_at "wb"
          have hsl := sizeLine_eq
          refine ⟨[.str "set", .int (i : Nat)], [_], rfl, rfl, by rw [hsl]; exact Nat.le_of_ble_eq_true rfl, ?_⟩
          have e := q (updB L q0 (.lst [.int 1])) (by unfold TA.tr trS; exact updB_same) (fun z hz => updB_ne hz)
          unfold TA.tr trS at e
          exact ⟨_, _, rfl, rfl, e⟩
      | carry r =>
        have hr : Row c r := by unfold wf at hw; exact hw
        obtain ⟨x0, r0, rfl⟩ : ∃ x0 r0, r = x0 :: r0 := by
          cases r with
          | nil => exact absurd hr.1 (by simp)
          | cons a b => exact ⟨a, b, rfl⟩
        dsimp only [TA.toD] at hd ⊢
        simp only [stD]
        walk_at "wb"
        refine in2 (b := true) (by decide +kernel) ?_
        walk_at "wb"
        cases f with
        | true =>
          walk_at "wb"
          show LcG (([.tz (.str "carry"), .tz (.lst (il (x0 :: r0)))] : List TA).map TA.toD) _ _ _ _ _ _
          refine i_turn (c := c) (m := m) [.tz (.str "carry"), .tz (.lst (il (x0 :: r0)))] (al _ rfl ?_) (Nat.le_of_ble_eq_true rfl) hq fun L' g1 g2 => ⟨_, .inl rfl, _, _, rfl, rfl, ?_⟩
          · intro x hx
            simp only [List.mem_cons, List.not_mem_nil, or_false] at hx
            rcases hx with rfl | rfl
            · exact trivial
            · exact ⟨by show (List.map _ _).length ≤ 1000; rw [List.length_map]; have := hr.1; omega, fun x hx => by obtain ⟨i, _, rfl⟩ := List.mem_map.mp hx; exact ⟨i, rfl⟩⟩

          · have e := q L' (by unfold TA.tr trS; exact g1) g2
            unfold TA.tr trS at e
            exact e
        | false =>
          walk_at "wb"
          refine ⟨0, _, _, .int x0, rfl, rfl, atI_of (i := 0) rfl, ?_⟩
          walk_at "wb"
          refine i_ixL (d := .int (if x0 = 1 then 0 else 1)) (turn_at x0) ?_
          refine ⟨⟨_, _, rfl⟩, ?_⟩
          walk_at "wb"
          refine ⟨0, _, _, 0, rfl, rfl, (show ixN _ ((0 : Nat) : Int) = some 0 from ixN_n (by show 0 < (List.map _ _).length; rw [List.length_map, List.length_cons]; omega)), (fun z => by cases z), ?_⟩
          walk_at "wb"
          have hsl := sizeLine_eq
          refine ⟨[.str "carry"], [_], rfl, rfl, by rw [hsl]; exact Nat.le_of_ble_eq_true rfl, ?_⟩
          have e := q (updB L q0 (.lst [.int 1])) (by unfold TA.tr trS; exact updB_same) (fun z hz => updB_ne hz)
          unfold TA.tr trS at e
          exact ⟨_, _, rfl, rfl, e⟩
      | end_ b =>
        dsimp only [TA.toD] at hd ⊢
        simp only [stD]
        walk_at "wb"
        refine in2 (b := false) (by decide +kernel) ?_
        walk_at "wb"
        show LcG (([.tz (.str "end"), .tz (.int (b : Nat))] : List TA).map TA.toD) _ _ _ _ _ _
        refine i_turn (c := c) (m := m) [.tz (.str "end"), .tz (.int (b : Nat))] (al _ rfl ?_) (Nat.le_of_ble_eq_true rfl) hq fun L' g1 g2 => ⟨_, .inl rfl, _, _, rfl, rfl, ?_⟩
        · intro x hx
          simp only [List.mem_cons, List.not_mem_nil, or_false] at hx
          rcases hx with rfl | rfl
          · exact trivial
          · exact trivial

        · have e := q L' (by unfold TA.tr trS; exact g1) g2
          unfold TA.tr trS at e
          exact e
      | keep cs b =>
        have hcs : Cells c cs := by unfold wf at hw; exact hw.2.1
        have hb : b.length ≤ 8 ∧ ∃ k, wfL c m k b := by unfold wf at hw; exact ⟨hw.2.2.1, _, hw.2.2.2⟩
        dsimp only [TA.toD] at hd ⊢
        simp only [stD]
        walk_at "wb"
        refine in2 (b := false) (by decide +kernel) ?_
        walk_at "wb"
        show LcG (([.tz (.str "keep"), .tz (.lst (il cs)), .tb b] : List TA).map TA.toD) _ _ _ _ _ _
        refine i_turn (c := c) (m := m) [.tz (.str "keep"), .tz (.lst (il cs)), .tb b] (al _ rfl ?_) (Nat.le_of_ble_eq_true rfl) hq fun L' g1 g2 => ⟨_, .inl rfl, _, _, rfl, rfl, ?_⟩
        · intro x hx
          simp only [List.mem_cons, List.not_mem_nil, or_false] at hx
          rcases hx with rfl | rfl | rfl
          · exact trivial
          · exact ⟨by show (List.map _ _).length ≤ 1000; rw [List.length_map]; have := hcs.len; omega, fun x hx => by obtain ⟨i, _, rfl⟩ := List.mem_map.mp hx; exact ⟨i, rfl⟩⟩
          · exact hb

        · have e := q L' (by unfold TA.tr trS; exact g1) g2
          unfold TA.tr trS at e
          exact e
      | again b =>
        have hb : b.length ≤ 8 ∧ ∃ k, wfL c m k b := by unfold wf at hw; exact ⟨hw.2.1, _, hw.2.2⟩
        dsimp only [TA.toD] at hd ⊢
        simp only [stD]
        walk_at "wb"
        refine in2 (b := false) (by decide +kernel) ?_
        walk_at "wb"
        show LcG (([.tz (.str "again"), .tb b] : List TA).map TA.toD) _ _ _ _ _ _
        refine i_turn (c := c) (m := m) [.tz (.str "again"), .tb b] (al _ rfl ?_) (Nat.le_of_ble_eq_true rfl) hq fun L' g1 g2 => ⟨_, .inl rfl, _, _, rfl, rfl, ?_⟩
        · intro x hx
          simp only [List.mem_cons, List.not_mem_nil, or_false] at hx
          rcases hx with rfl | rfl
          · exact trivial
          · exact hb

        · have e := q L' (by unfold TA.tr trS; exact g1) g2
          unfold TA.tr trS at e
          exact e
      | either a b =>
        have ha : a.length ≤ 8 ∧ ∃ k, wfL c m k a := by unfold wf at hw; exact ⟨hw.2.1.1, _, hw.2.1.2⟩
        have hb : b.length ≤ 8 ∧ ∃ k, wfL c m k b := by unfold wf at hw; exact ⟨hw.2.2.1, _, hw.2.2.2⟩
        dsimp only [TA.toD] at hd ⊢
        simp only [stD]
        walk_at "wb"
        refine in2 (b := false) (by decide +kernel) ?_
        walk_at "wb"
        show LcG (([.tz (.str "either"), .tb a, .tb b] : List TA).map TA.toD) _ _ _ _ _ _
        refine i_turn (c := c) (m := m) [.tz (.str "either"), .tb a, .tb b] (al _ rfl ?_) (Nat.le_of_ble_eq_true rfl) hq fun L' g1 g2 => ⟨_, .inl rfl, _, _, rfl, rfl, ?_⟩
        · intro x hx
          simp only [List.mem_cons, List.not_mem_nil, or_false] at hx
          rcases hx with rfl | rfl | rfl
          · exact trivial
          · exact ha
          · exact hb

        · have e := q L' (by unfold TA.tr trS; exact g1) g2
          unfold TA.tr trS at e
          exact e
      | call i r a b =>
        have hr : Row c r := by unfold wf at hw; exact hw.2.1.2
        have ha : a.length ≤ 8 ∧ ∃ k, wfL c m k a := by unfold wf at hw; exact ⟨hw.2.2.1.1, _, hw.2.2.1.2⟩
        have hb : b.length ≤ 8 ∧ ∃ k, wfL c m k b := by unfold wf at hw; exact ⟨hw.2.2.2.1, _, hw.2.2.2.2⟩
        dsimp only [TA.toD] at hd ⊢
        simp only [stD]
        walk_at "wb"
        refine in2 (b := false) (by decide +kernel) ?_
        walk_at "wb"
        show LcG (([.tz (.str "call"), .tz (.int (i : Nat)), .tz (.lst (il r)), .tbs [a, b]] : List TA).map TA.toD) _ _ _ _ _ _
        refine i_turn (c := c) (m := m) [.tz (.str "call"), .tz (.int (i : Nat)), .tz (.lst (il r)), .tbs [a, b]] (al _ rfl ?_) (Nat.le_of_ble_eq_true rfl) hq fun L' g1 g2 => ⟨_, .inl rfl, _, _, rfl, rfl, ?_⟩
        · intro x hx
          simp only [List.mem_cons, List.not_mem_nil, or_false] at hx
          rcases hx with rfl | rfl | rfl | rfl
          · exact trivial
          · exact trivial
          · exact ⟨by show (List.map _ _).length ≤ 1000; rw [List.length_map]; have := hr.1; omega, fun x hx => by obtain ⟨i, _, rfl⟩ := List.mem_map.mp hx; exact ⟨i, rfl⟩⟩
          · exact ⟨by show 2 ≤ 3; decide, two2 ha hb⟩

        · have e := q L' (by unfold TA.tr trS; exact g1) g2
          unfold TA.tr trS at e
          exact e
end

/-! ### what turning does to a book's bodies -/
open Bk
theorem turnR_ne {c : Nat} {r : List Int} (h : Row c r) : turnR r ≠ r := by
  cases r with
  | nil => exact absurd h.1 (by simp)
  | cons x r =>
    intro z
    unfold turnR at z
    have := (List.cons.inj z).1
    by_cases hx : x = 1
    · rw [if_pos hx] at this; omega
    · rw [if_neg hx] at this; exact hx this.symm
theorem turnR_row {c : Nat} {r : List Int} (h : Row c r) : Row c (turnR r) := by
  cases r with
  | nil => exact h
  | cons x r =>
    refine ⟨h.1, fun y hy => ?_⟩
    rcases List.mem_cons.mp hy with rfl | hy
    · by_cases hx : x = 1
      · rw [if_pos hx]; decide
      · rw [if_neg hx]; decide
    · exact h.2 y (List.mem_cons_of_mem _ hy)
mutual
theorem trS_ne {c m : Nat} : ∀ {k : Nat} (s : Sm), wf c m k s → (trS s false).2 = true → (trS s false).1 ≠ s
  | k, .set i r, w, h => by
    unfold wf at w
    unfold trS
    exact fun z => turnR_ne w.2 (Sm.set.inj z).2
  | k, .carry r, w, h => by
    unfold wf at w
    unfold trS
    exact fun z => turnR_ne w (Sm.carry.inj z)
  | k, .end_ b, w, h => by unfold trS at h; cases h
  | k, .keep cs b, w, h => by
    unfold wf at w
    unfold trS at h ⊢
    exact fun z => trB_ne b w.2.2.2 h (Sm.keep.inj z).2
  | k, .again b, w, h => by
    unfold wf at w
    unfold trS at h ⊢
    exact fun z => trB_ne b w.2.2 h (Sm.again.inj z)
  | k, .either a b, w, h => by
    unfold wf at w
    unfold trS at h ⊢
    dsimp only at h ⊢
    intro z
    cases e : (trB a false).2 with
    | true => exact trB_ne a w.2.1.2 e (Sm.either.inj z).1
    | false => rw [e] at h z; exact trB_ne b w.2.2.2 h (Sm.either.inj z).2
  | k, .call i r a b, w, h => by
    unfold wf at w
    unfold trS at h ⊢
    dsimp only at h ⊢
    intro z
    cases e : (trB a false).2 with
    | true => exact trB_ne a w.2.2.1.2 e (Sm.call.inj z).2.2.1
    | false => rw [e] at h z; exact trB_ne b w.2.2.2.2 h (Sm.call.inj z).2.2.2
theorem trB_ne {c m : Nat} : ∀ {k : Nat} (b : List Sm), wfL c m k b → (trB b false).2 = true → (trB b false).1 ≠ b
  | k, [], w, h => by unfold trB at h; cases h
  | k, s :: b, w, h => by
    unfold wfL at w
    unfold trB at h ⊢
    dsimp only at h ⊢
    intro z
    cases e : (trS s false).2 with
    | true => exact trS_ne s w.1 e (List.cons.inj z).1
    | false => rw [e] at h z; exact trB_ne b w.2 h (List.cons.inj z).2
end
theorem trBs_ne {c m : Nat} : ∀ (b : List (List Sm)), (∀ x ∈ b, ∃ k, wfL c m k x) → (trBs b false).2 = true → (trBs b false).1 ≠ b
  | [], w, h => by cases h
  | s :: b, w, h => by
    unfold trBs at h ⊢
    dsimp only at h ⊢
    intro z
    cases e : (trB s false).2 with
    | true =>
      obtain ⟨k, hk⟩ := w s (List.mem_cons_self ..)
      exact trB_ne s hk e (List.cons.inj z).1
    | false => rw [e] at h z; exact trBs_ne b (fun x hx => w x (List.mem_cons_of_mem _ hx)) h (List.cons.inj z).2
theorem trB_len : ∀ (b : List Sm) (f : Bool), (trB b f).1.length = b.length
  | [], f => by unfold trB; rfl
  | s :: b, f => by unfold trB; show (trB b _).1.length + 1 = b.length + 1; rw [trB_len b]
mutual
theorem trS_cnt : ∀ (s : Sm) (f : Bool), Bk.cnt (trS s f).1 = Bk.cnt s
  | .set i r, f => by unfold trS; cases f <;> rfl
  | .carry r, f => by unfold trS; cases f <;> rfl
  | .end_ b, f => by unfold trS; rfl
  | .keep cs b, f => by unfold trS; dsimp only; unfold Bk.cnt; rw [trB_cnt b]
  | .again b, f => by unfold trS; dsimp only; unfold Bk.cnt; rw [trB_cnt b]
  | .either a b, f => by unfold trS; dsimp only; unfold Bk.cnt; rw [trB_cnt a, trB_cnt b]
  | .call i r a b, f => by unfold trS; dsimp only; unfold Bk.cnt; rw [trB_cnt a, trB_cnt b]
theorem trB_cnt : ∀ (b : List Sm) (f : Bool), cntB (trB b f).1 = cntB b
  | [], f => by unfold trB; rfl
  | s :: b, f => by unfold trB; dsimp only; unfold cntB; rw [trS_cnt s, trB_cnt b]
end
mutual
theorem trS_wf {c m : Nat} : ∀ {k : Nat} (s : Sm) (f : Bool), wf c m k s → wf c m k (trS s f).1
  | k, .set i r, f, w => by
    unfold wf at w
    unfold trS
    cases f
    · show wf c m k (.set i (turnR r)); unfold wf; exact ⟨w.1, turnR_row w.2⟩
    · show wf c m k (.set i r); unfold wf; exact w
  | k, .carry r, f, w => by
    unfold wf at w
    unfold trS
    cases f
    · show wf c m k (.carry (turnR r)); unfold wf; exact turnR_row w
    · show wf c m k (.carry r); unfold wf; exact w
  | k, .end_ b, f, w => by unfold trS; exact w
  | k, .keep cs b, f, w => by
    unfold wf at w
    unfold trS
    show wf c m k (.keep cs (trB b f).1)
    unfold wf
    exact ⟨w.1, w.2.1, by rw [trB_len]; exact w.2.2.1, trB_wf b f w.2.2.2⟩
  | k, .again b, f, w => by
    unfold wf at w
    unfold trS
    show wf c m k (.again (trB b f).1)
    unfold wf
    exact ⟨w.1, by rw [trB_len]; exact w.2.1, trB_wf b f w.2.2⟩
  | k, .either a b, f, w => by
    unfold wf at w
    unfold trS
    show wf c m k (.either (trB a f).1 (trB b (trB a f).2).1)
    unfold wf
    exact ⟨w.1, ⟨by rw [trB_len]; exact w.2.1.1, trB_wf a f w.2.1.2⟩, by rw [trB_len]; exact w.2.2.1, trB_wf b _ w.2.2.2⟩
  | k, .call i r a b, f, w => by
    unfold wf at w
    unfold trS
    show wf c m k (.call i r (trB a f).1 (trB b (trB a f).2).1)
    unfold wf
    exact ⟨w.1, w.2.1, ⟨by rw [trB_len]; exact w.2.2.1.1, trB_wf a f w.2.2.1.2⟩, by rw [trB_len]; exact w.2.2.2.1, trB_wf b _ w.2.2.2.2⟩
theorem trB_wf {c m : Nat} : ∀ {k : Nat} (b : List Sm) (f : Bool), wfL c m k b → wfL c m k (trB b f).1
  | k, [], f, w => by unfold trB; exact w
  | k, s :: b, f, w => by
    unfold wfL at w
    unfold trB
    show wfL c m k ((trS s f).1 :: (trB b (trS s f).2).1)
    unfold wfL
    exact ⟨trS_wf s f w.1, trB_wf b _ w.2⟩
end
theorem trBs_len : ∀ (b : List (List Sm)) (f : Bool), (trBs b f).1.length = b.length
  | [], f => rfl
  | s :: b, f => by unfold trBs; show (trBs b _).1.length + 1 = b.length + 1; rw [trBs_len b]
theorem trBs_mem {c m : Nat} : ∀ (bs : List (List Sm)) (f : Bool), (∀ b ∈ bs, b.length ≤ 8 ∧ wfL c m 3 b ∧ cntB b ≤ 12) → ∀ b ∈ (trBs bs f).1, b.length ≤ 8 ∧ wfL c m 3 b ∧ cntB b ≤ 12
  | [], f, h, b, hb => by cases hb
  | s :: bs, f, h, b, hb => by
    unfold trBs at hb
    rcases List.mem_cons.mp hb with rfl | hb
    · have h1 := h s (List.mem_cons_self ..)
      exact ⟨by rw [trB_len]; exact h1.1, trB_wf s f h1.2.1, by rw [trB_cnt]; exact h1.2.2⟩
    · exact trBs_mem bs _ (fun x hx => h x (List.mem_cons_of_mem _ hx)) b hb
theorem trBs_bodies {c m : Nat} {bs : List (List Sm)} (h : Bodies c m bs) (f : Bool) : Bodies c m (trBs bs f).1 := ⟨by rw [trBs_len]; exact h.len, trBs_mem bs f h.body⟩
/-! data of bodies tell the bodies -/
mutual
theorem stD_inj : ∀ (s t : Sm), stD s = stD t → s = t
  | .set i r, t, h => by
    cases t <;> simp only [stD, D.tup.injEq, List.cons.injEq, D.str.injEq, D.int.injEq, D.lst.injEq, and_true, reduceCtorEq, and_false, false_and] at h
    all_goals first | (exact absurd h.1 (by decide)) | skip
    obtain ⟨_, h1, h2⟩ := h
    rw [Int.ofNat.inj h1, intL_inj h2]
  | .carry r, t, h => by
    cases t <;> simp only [stD, D.tup.injEq, List.cons.injEq, D.str.injEq, D.int.injEq, D.lst.injEq, and_true, reduceCtorEq, and_false, false_and] at h
    all_goals first | (exact absurd h.1 (by decide)) | skip
    rw [intL_inj h.2]
  | .end_ b, t, h => by
    cases t <;> simp only [stD, D.tup.injEq, List.cons.injEq, D.str.injEq, D.int.injEq, D.lst.injEq, and_true, reduceCtorEq, and_false, false_and] at h
    all_goals first | (exact absurd h.1 (by decide)) | skip
    rw [Int.ofNat.inj h.2]
  | .keep cs b, t, h => by
    cases t <;> simp only [stD, D.tup.injEq, List.cons.injEq, D.str.injEq, D.int.injEq, D.lst.injEq, and_true, reduceCtorEq, and_false, false_and] at h
    all_goals first | (exact absurd h.1 (by decide)) | skip
    obtain ⟨_, h1, h2⟩ := h
    rw [intL_inj h1, blD_inj b _ h2]
  | .again b, t, h => by
    cases t <;> simp only [stD, D.tup.injEq, List.cons.injEq, D.str.injEq, D.int.injEq, D.lst.injEq, and_true, reduceCtorEq, and_false, false_and] at h
    all_goals first | (exact absurd h.1 (by decide)) | skip
    rw [blD_inj b _ h.2]
  | .either a b, t, h => by
    cases t <;> simp only [stD, D.tup.injEq, List.cons.injEq, D.str.injEq, D.int.injEq, D.lst.injEq, and_true, reduceCtorEq, and_false, false_and] at h
    all_goals first | (exact absurd h.1 (by decide)) | skip
    obtain ⟨_, h1, h2⟩ := h
    rw [blD_inj a _ h1, blD_inj b _ h2]
  | .call i r a b, t, h => by
    cases t <;> simp only [stD, D.tup.injEq, List.cons.injEq, D.str.injEq, D.int.injEq, D.lst.injEq, and_true, reduceCtorEq, and_false, false_and] at h
    all_goals first | (exact absurd h.1 (by decide)) | skip
    obtain ⟨_, h1, h2, h3, h4⟩ := h
    rw [Int.ofNat.inj h1, intL_inj h2, blD_inj a _ h3, blD_inj b _ h4]
theorem blD_inj : ∀ (b c : List Sm), blD b = blD c → b = c
  | [], [], h => rfl
  | [], t :: c, h => by unfold blD at h; cases h
  | s :: b, [], h => by unfold blD at h; cases h
  | s :: b, t :: c, h => by
    unfold blD at h
    obtain ⟨h1, h2⟩ := List.cons.inj h
    rw [stD_inj s t h1, blD_inj b c h2]
end
theorem blsD_inj : ∀ (b c : List (List Sm)), blsD b = blsD c → b = c
  | [], [], h => rfl
  | [], t :: c, h => by cases h
  | s :: b, [], h => by cases h
  | s :: b, t :: c, h => by
    obtain ⟨h1, h2⟩ := List.cons.inj (show D.lst (blD s) :: blsD b = D.lst (blD t) :: blsD c from h)
    rw [blD_inj s t (D.lst.inj h1), blsD_inj b c h2]

/-! ### statements are data that == takes -/
theorem pl_all2 {n : Nat} {a b : D} (h1 : PlN n a) (h2 : PlN n b) : ∀ d ∈ [a, b], PlN n d := fun d hd => by
  rcases List.mem_cons.mp hd with z | hd
  · rw [z]; exact h1
  · rw [List.mem_singleton.mp hd]; exact h2
theorem pl_all3 {n : Nat} {a b c : D} (h1 : PlN n a) (h2 : PlN n b) (h3 : PlN n c) : ∀ d ∈ [a, b, c], PlN n d := fun d hd => by
  rcases List.mem_cons.mp hd with z | hd
  · rw [z]; exact h1
  · exact pl_all2 h2 h3 d hd
theorem pl_all4 {n : Nat} {a b c e : D} (h1 : PlN n a) (h2 : PlN n b) (h3 : PlN n c) (h4 : PlN n e) : ∀ d ∈ [a, b, c, e], PlN n d := fun d hd => by
  rcases List.mem_cons.mp hd with z | hd
  · rw [z]; exact h1
  · exact pl_all3 h2 h3 h4 d hd
namespace Bk
theorem pl_sI {n : Nat} (r : List Int) : PlN (n + 1) (.lst (il r)) := pl_ints r
mutual
/-- statements are data that == takes -/
theorem pl_st : ∀ (s : Sm) {n : Nat}, 3 * dep s + 4 ≤ n → PlN n (stD s)
  | .set i r, n, h => by
    obtain ⟨k, rfl⟩ : ∃ k, n = k + 2 := ⟨n - 2, by unfold dep at h; omega⟩
    exact pl_tup (pl_all3 (pl_str (by decide +kernel)) (pl_int _) (pl_sI r))
  | .carry r, n, h => by
    obtain ⟨k, rfl⟩ : ∃ k, n = k + 2 := ⟨n - 2, by unfold dep at h; omega⟩
    exact pl_tup (pl_all2 (pl_str (by decide +kernel)) (pl_sI r))
  | .end_ b, n, h => by
    obtain ⟨k, rfl⟩ : ∃ k, n = k + 2 := ⟨n - 2, by unfold dep at h; omega⟩
    exact pl_tup (pl_all2 (pl_str (by decide +kernel)) (pl_int _))
  | .keep cs b, n, h => by
    unfold dep at h
    obtain ⟨k, rfl⟩ : ∃ k, n = k + 2 := ⟨n - 2, by omega⟩
    exact pl_tup (pl_all3 (pl_str (by decide +kernel)) (pl_sI cs) (pl_lst (pl_bk b (by omega))))
  | .again b, n, h => by
    unfold dep at h
    obtain ⟨k, rfl⟩ : ∃ k, n = k + 2 := ⟨n - 2, by omega⟩
    exact pl_tup (pl_all2 (pl_str (by decide +kernel)) (pl_lst (pl_bk b (by omega))))
  | .either a b, n, h => by
    unfold dep at h
    obtain ⟨k, rfl⟩ : ∃ k, n = k + 2 := ⟨n - 2, by omega⟩
    exact pl_tup (pl_all3 (pl_str (by decide +kernel)) (pl_lst (pl_bk a (by omega))) (pl_lst (pl_bk b (by omega))))
  | .call p r a b, n, h => by
    unfold dep at h
    obtain ⟨k, rfl⟩ : ∃ k, n = k + 3 := ⟨n - 3, by omega⟩
    exact pl_tup (pl_all4 (pl_str (by decide +kernel)) (pl_int _) (pl_sI r) (pl_lst (pl_all2 (pl_lst (pl_bk a (by omega))) (pl_lst (pl_bk b (by omega))))))
theorem pl_bk : ∀ (b : List Sm) {n : Nat}, 3 * depB b + 4 ≤ n → ∀ d ∈ blD b, PlN n d
  | [], n, h, d, hd => by cases hd
  | s :: b, n, h, d, hd => by
    unfold depB at h
    rcases List.mem_cons.mp hd with z | z
    · rw [z]; exact pl_st s (by omega)
    · exact pl_bk b (by omega) d z
end
end Bk

/-! ### a book is equal to itself told anew -/
abbrev s_Book_eq : Stmt := methS 30 2
theorem sc_Book_eq : FnScope ["self", "other"] ["self", "other"] (defScope s_Book_eq) := ⟨rfl, rfl, rfl, by decide +kernel, rfl, by decide +kernel, by decide +kernel⟩

namespace Bk
mutual
theorem clean_st : ∀ s : Sm, clean (stD s) = true
  | .set c r => by have := clean_ints r; simp only [stD, clean, cleans, Bool.and_true, Bool.true_and]; exact this
  | .carry r => by have := clean_ints r; simp only [stD, clean, cleans, Bool.and_true, Bool.true_and]; exact this
  | .end_ b => rfl
  | .keep cs b => by have := clean_ints cs; have h := clean_bk b; simp only [stD, clean, cleans, Bool.and_true, Bool.true_and, h]; exact this
  | .again b => by have h := clean_bk b; simp only [stD, clean, cleans, Bool.and_true, Bool.true_and, h]
  | .either a b => by have h := clean_bk a; have h2 := clean_bk b; simp only [stD, clean, cleans, Bool.and_true, Bool.true_and, h, h2]
  | .call p r a b => by have := clean_ints r; have h := clean_bk a; have h2 := clean_bk b; simp only [stD, clean, cleans, Bool.and_true, Bool.true_and, h, h2]; exact this
theorem clean_bk : ∀ b : List Sm, cleans (blD b) = true
  | [] => rfl
  | s :: b => by have h := clean_st s; have h2 := clean_bk b; simp only [blD, cleans, h, h2, Bool.and_true]
end
theorem clean_bls : ∀ bs : List (List Sm), cleans (blsD bs) = true
  | [] => rfl
  | b :: bs => by
    have h := clean_bk b
    have h2 := clean_bls bs
    show (clean (.lst (blD b)) && cleans (blsD bs)) = true
    rw [h2, Bool.and_true]
    exact h
end Bk
open Bk
def spec_bookeq (C : Addr) : SpecD := .fn (fun a : Nat × Nat × List (List Sm) => [bookD C a.1 a.2.2, bookD C a.1 a.2.2]) (fun a => okBk a.1 a.2.1 a.2.2) (fun _ => .d (.bl true))
section
variable {P : Program} {w : World} {K : PySem.W.Frag} {mg : Str → Option Value} {base : Heap}
end

/-! ### a book told; shared lists -/
abbrev s_L_tells : Stmt := topS 46
theorem sc_L_tells : FnScope ["_law_book", "_law_cells", "_law_bodies_here"] ["_law_book", "_law_cells", "_law_bodies_here"] (defScope s_L_tells) := ⟨rfl, rfl, rfl, by decide +kernel, rfl, by decide +kernel, by decide +kernel⟩

abbrev s_L_shared_right : Stmt := topS 47
theorem sc_L_shared_right : FnScope ["_law_pool_here", "_law_cells", "_law_row_here", "_law_block_here", "_law_body_here", "_law_due", "_law_book", "_law_first", "_law_second", "$"] ["_law_pool_here", "_law_cells"] (defScope s_L_shared_right) := ⟨rfl, rfl, rfl, by decide +kernel, rfl, by decide +kernel, by decide +kernel⟩

open Bk
structure BeA where
  c : Nat
  m : Nat
  bs : List (List Sm)
  c2 : Nat
  m2 : Nat
  bs2 : List (List Sm)
def spec_bookeq2 (C : Addr) : SpecD := SpecD.of (fun a : BeA => [bookD C a.c a.bs, bookD C a.c2 a.bs2]) (fun a => okBk a.c a.m a.bs ∧ okBk a.c2 a.m2 a.bs2) (fun a r => ∃ b : Bool, r = .d (.bl b) ∧ (b = true ↔ a.c = a.c2 ∧ a.bs = a.bs2))
def spec_ltells (C : Addr) : SpecD := .fn (fun a : Nat × Nat × List (List Sm) => [bookD C a.1 a.2.2, .int (a.1 : Nat), .lst (blsD a.2.2)]) (fun a => okBk a.1 a.2.1 a.2.2) (fun _ => .d (.bl true))
def spec_lshared : SpecP := SpecP.of (fun c : Nat => [.int (c : Nat)]) PoolP (fun c => 1 ≤ c ∧ c ≤ 3) (fun _ r => r = .d (.bl true))
theorem pl_bls {c m : Nat} {bs : List (List Sm)} (hb : Bodies c m bs) : ∀ d ∈ blsD bs, PlN 40 d := fun d hd => by
  obtain ⟨b, hb', rfl⟩ := List.mem_map.mp hd
  have := depB_wf (hb.body b hb').2.1
  exact pl_lst (pl_bk b (by omega))
theorem eqD_bls2 (a b : List (List Sm)) : (eqD (.lst (blsD a)) (.lst (blsD b)) = true) ↔ a = b := (eqD_iff (show clean (.lst (blsD a)) = true from clean_bls a) (show clean (.lst (blsD b)) = true from clean_bls b)).trans ⟨fun h => blsD_inj _ _ (D.lst.inj h), fun h => by rw [h]⟩
section
variable {P : Program} {w : World} {K : PySem.W.Frag} {mg : Str → Option Value} {base : Heap}
theorem ok_Book_eq2 (M : Blt mg) (hSeer : seerB K = true) (hTree : P.given.tree = none) (T_Book : Tc K mg "Book" ["many", "own", "run_memo", "deed_memo"]) (G_Book_eq : Gm K T_Book.C "__eq__" "Book.__eq__" s_Book_eq ["self", "other"]) : FnOk P w K mg base CX0 1 G_Book_eq.f G_Book_eq.fd ["self", "other"] (spV K (spec_bookeq2 T_Book.C)) := by
  refine fn_ok G_Book_eq.F sc_Book_eq (fun ds Q ⟨a, e, _⟩ => by rw [e]; rfl) fun cdv A outer s0 H E hr => ⟨_, _, (dss_one (ds_ret (de_and (de_isO K T_Book.own M.isinstance T_Book.g (de_var 1)) (de_and (de_eq (de_fld K (de_var 0)) (de_fld K (de_var 1))) (de_one (de_eqD K hr (de_fld K (de_var 0)) (de_fld K (de_var 1)))))))), ?_⟩
  rintro ds Q ⟨⟨c, m, bs, c2, m2, bs2⟩, rfl, ⟨ho, ho2⟩, q⟩
  replace q : ∀ b : Bool, (b = true ↔ c = c2 ∧ bs = bs2) → Q (.d (.bl b)) := fun b hb => q _ ⟨b, rfl, hb⟩
  have hf1 : Cls K T_Book.C ∧ NoAttr K T_Book.C "many" := T_Book.fld
  have hf2 : Cls K T_Book.C ∧ NoAttr K T_Book.C "own" := T_Book.fld
  have hown : OwnCls K T_Book.C := T_Book.own
  unfold bookD
  walk_at "wr"
  refine ⟨hown, fun C' fs e => (by cases e; rfl), true, (by rw [isO_self]), ?_⟩
  walk_at "wr"
  refine i_iteB (fun h => ?_) (fun h => ?_)
  · have h := of_decide_eq_true h
    walk_at "wr"
    refine ⟨(pl_lst (pl_bls ho.2.2.2.2)).pl (by decide), (pl_lst (pl_bls ho2.2.2.2.2)).pl (by decide), ?_⟩
    rw [if_neg Bool.false_ne_true]
    exact q _ ((eqD_bls2 bs bs2).trans ⟨fun e => ⟨by omega, e⟩, fun e => e.2⟩)
  · have h := of_decide_eq_false h
    exact q false ⟨fun z => (by cases z), fun z => absurd (congrArg (fun n : Nat => (n : Int)) z.1) h⟩
theorem ok_L_tells (M : Blt mg) (hSeer : seerB K = true) (hTree : P.given.tree = none) (G_blocks_of : Gf K mg "blocks_of" s_blocks_of ["statement"]) (G_copied_statement : Gf K mg "copied_statement" s_copied_statement ["statement"]) (G_copied_block : Gf K mg "copied_block" s_copied_block ["block"]) (T_Book : Tc K mg "Book" ["many", "own", "run_memo", "deed_memo"]) (G_Book_len : Gm K T_Book.C "__len__" "Book.__len__" s_Book_len ["self"]) (G_Book_cells : Gm K T_Book.C "cells" "Book.cells" s_Book_cells ["self"]) (G_Book_bodies : Gm K T_Book.C "bodies" "Book.bodies" s_Book_bodies ["self"]) (G_L_same : Gf K mg "_law_same" s_L_same ["_law_actual", "_law_due"]) (G_L_tells : Gf K mg "_law_tells" s_L_tells ["_law_book", "_law_cells", "_law_bodies_here"]) : FnOk P w K mg base CX0 25 G_L_tells.f G_L_tells.fd ["_law_book", "_law_cells", "_law_bodies_here"] (spV K (spec_ltells T_Book.C)) := by
  have H_L_same := ok_L_same (P := P) (w := w) (base := base) M G_L_same 20
  have H_Book_len := ok_Book_len (P := P) (w := w) (base := base) M hSeer hTree T_Book G_Book_len
  have H_Book_cells := ok_Book_cells (P := P) (w := w) (base := base) M hSeer hTree T_Book G_Book_cells
  have H_Book_bodies := ok_Book_bodies (P := P) (w := w) (base := base) M hSeer hTree G_blocks_of G_copied_statement G_copied_block T_Book G_Book_bodies
  refine fn_ok G_L_tells.F sc_L_tells (fun ds Q ⟨a, e, _⟩ => by rw [e]; rfl) fun cdv A outer s0 H E hr => ⟨_, _, (dss_cons (ds_if (dt_not (dt_tr K (de_call K H_L_same (hr.mono (by decide)) G_L_same.g G_L_same.F.kp G_L_same.b (da_cons (DF.v (df_lst (da_cons (de_meth0 K (de_var 0) T_Book.own.cl G_Book_cells.meth H_Book_cells (hr.mono (by decide)) G_Book_cells.b) (da_cons (de_lenOb K H_Book_len (hr.mono (by decide)) (G_Book_len.at) (G_Book_len.fn) (G_Book_len.b) M.len (da_cons (de_var 0) da_nil)) da_nil)))) (da_cons (DF.v (df_lst (da_cons (de_var 1) (da_cons (de_callB cs_len call_len_seq M.len PySem.boot_len (da_cons (de_var 2) da_nil)) da_nil)))) da_nil))))) (dss_one (ds_ret de_bl)) dss_nil)
      (dss_one (ds_ret (de_call K H_L_same (hr.mono (by decide)) G_L_same.g G_L_same.F.kp G_L_same.b (da_cons (DF.v (df_meth0 K (de_var 0) T_Book.own.cl G_Book_bodies.meth H_Book_bodies (hr.mono (by decide)) G_Book_bodies.b)) (da_cons (de_var 2) da_nil)))))), ?_⟩
  rintro ds Q ⟨⟨c, m, bs⟩, rfl, ho, q⟩
  replace ho : okBk c m bs := ho
  replace q : Q (.d (.bl true)) := q
  have hbl := ho.2.2.2.2.len
  have hdb : Dep 20 (.lst (blsD bs)) := Dep.le (by decide) (sdep_bls ho.2.2.2.2 ho.2.1 ho.2.2.2.1).dep
  unfold bookD
  walk_at "wr"
  refine ⟨(c, bs), rfl, trivial, ?_⟩
  walk_at "wr"
  refine ⟨(c, m, bs), rfl, ho, (m : Nat), rfl, ⟨by omega, by have := ho.2.2.2.1; omega⟩, ?_⟩
  walk_at "wr"
  rw [blsD_len, hbl]
  refine ⟨_, rfl, ⟨Nat.le_of_ble_eq_true rfl, fun x hx => ?_⟩, fun r hr => ?_⟩
  · rcases List.mem_cons.mp hx with rfl | hx
    · trivial
    · rw [List.mem_singleton.mp hx]; trivial
  subst hr
  walk_at "wr"
  refine ⟨(c, m, bs), rfl, ho, ?_⟩
  walk_at "wr"
  exact ⟨_, rfl, hdb, fun r hr => by subst hr; exact q⟩
theorem ok_L_shared_right (M : Blt mg) (hSeer : seerB K = true) (hTree : P.given.tree = none) (G_is_integer : Gf K mg "is_integer" s_is_integer ["value"]) (G_is_vector : Gf K mg "is_vector" s_is_vector ["value", "width"]) (G_is_bit : Gf K mg "is_bit" s_is_bit ["value"]) (G_is_index : Gf K mg "is_index" s_is_index ["value", "many"]) (G_is_row : Gf K mg "is_row" s_is_row ["value", "cells"]) (G_are_cells : Gf K mg "are_cells" s_are_cells ["value", "cells"]) (G_blocks_of : Gf K mg "blocks_of" s_blocks_of ["statement"]) (G_copied_statement : Gf K mg "copied_statement" s_copied_statement ["statement"]) (G_copied_block : Gf K mg "copied_block" s_copied_block ["block"]) (T_SIZES : Dc K w mg "SIZES" [("set", 3), ("carry", 2), ("keep", 3), ("either", 3), ("again", 2), ("call", 4), ("end", 2)] []) (G_is_word : Gf K mg "is_word" s_is_word ["value"]) (G_is_command : Gf K mg "is_command" s_is_command ["value", "cells"]) (hDEEPEST : ∃ t, mg "DEEPEST" = some (.int 3 t)) (G_has_form : Gf K mg "has_form" s_has_form ["value", "level", "cells", "many"]) (hMOST_IN_LIST : ∃ t, mg "MOST_IN_LIST" = some (.int 8 t)) (hMOST_IN_PROCEDURE : ∃ t, mg "MOST_IN_PROCEDURE" = some (.int 12 t)) (G_first_fault : Gf K mg "first_fault" s_first_fault ["block", "level", "form", "path", "met"]) (hMOST_CELLS : ∃ t, mg "MOST_CELLS" = some (.int 3 t)) (hMOST_PROCEDURES : ∃ t, mg "MOST_PROCEDURES" = some (.int 3 t)) (T_Book : Tc K mg "Book" ["many", "own", "run_memo", "deed_memo"]) (G_Book_init : Gm K T_Book.C "__init__" "Book.__init__" s_Book_init ["self", "cells", "bodies"]) (G_Book_len : Gm K T_Book.C "__len__" "Book.__len__" s_Book_len ["self"]) (G_Book_cells : Gm K T_Book.C "cells" "Book.cells" s_Book_cells ["self"]) (G_Book_bodies : Gm K T_Book.C "bodies" "Book.bodies" s_Book_bodies ["self"]) (G_L_draw : Gf K mg "_law_draw" s_L_draw ["_law_pool_here", "_law_many"]) (G_L_row : Gf K mg "_law_row" s_L_row ["_law_pool_here", "_law_cells"]) (G_L_copied : Gf K mg "_law_copied" s_L_copied ["_law_value"]) (G_L_same : Gf K mg "_law_same" s_L_same ["_law_actual", "_law_due"]) (G_L_longer : Gf K mg "_law_longer" s_L_longer ["_law_value"]) (G_L_spoiled : Gf K mg "_law_spoiled" s_L_spoiled ["_law_value"]) (G_L_tells : Gf K mg "_law_tells" s_L_tells ["_law_book", "_law_cells", "_law_bodies_here"]) (G_L_shared_right : Gf K mg "_law_shared_right" s_L_shared_right ["_law_pool_here", "_law_cells"]) : FnOk P w K mg base CX0 26 G_L_shared_right.f G_L_shared_right.fd ["_law_pool_here", "_law_cells"] (spP K spec_lshared) := by
  have H_L_same := ok_L_same (P := P) (w := w) (base := base) M G_L_same 20
  have H_L_copied := ok_L_copied (P := P) (w := w) (base := base) M hSeer hTree G_L_copied 20
  have H_L_longer := ok_L_longer (P := P) (w := w) (base := base) M hSeer hTree G_L_longer 20
  have H_L_spoiled := ok_L_spoiled (P := P) (w := w) (base := base) M hSeer hTree G_L_spoiled 20 (Nat.le_refl _)
  have H_L_row := ok_L_row (P := P) (w := w) (base := base) M hSeer hTree G_L_draw G_L_row
  have H_Book_init := ok_Book_init (P := P) (w := w) (base := base) M hSeer hTree G_is_integer G_is_vector G_is_bit G_is_index G_is_row G_are_cells G_blocks_of G_copied_statement G_copied_block T_SIZES G_is_word G_is_command hDEEPEST G_has_form hMOST_IN_LIST hMOST_IN_PROCEDURE G_first_fault hMOST_CELLS hMOST_PROCEDURES T_Book G_Book_init
  have H_Book_bodiesD := ok_Book_bodiesD (P := P) (w := w) (base := base) M hSeer hTree G_blocks_of G_copied_statement G_copied_block T_Book G_Book_bodies
  have H_L_tells := ok_L_tells (P := P) (w := w) (base := base) M hSeer hTree G_blocks_of G_copied_statement G_copied_block T_Book G_Book_len G_Book_cells G_Book_bodies G_L_same G_L_tells
  refine fn_okP G_L_shared_right.F sc_L_shared_right (fun pl ds Q ⟨_, a, e, _⟩ => by rw [e]; rfl) fun cdv A outer s0 H E hr => ⟨_, _, (dss_initB 9 (dss_cons (ds_set (i := 2) sc_L_shared_right.nd (DF.v (df_callP K 0 H_L_row (hr.mono (by decide)) G_L_row.g G_L_row.F.kp G_L_row.b (da_cons (de_var 1) da_nil))))
      (dss_cons (ds_set (i := 3) sc_L_shared_right.nd (DF.v (df_lst (da_cons (de_tup (da_cons de_str (da_cons (de_var 2) da_nil))) (da_cons (de_tup (da_cons de_str (da_cons de_int (da_cons (de_var 2) da_nil)))) da_nil)))))
      (dss_cons (ds_set (i := 4) sc_L_shared_right.nd (DF.v (df_lst (da_cons (de_tup (da_cons de_str (da_cons (de_var 3) (da_cons (de_var 3) da_nil)))) (da_cons (de_tup (da_cons de_str (da_cons (de_var 3) da_nil))) (da_cons (de_tup (da_cons de_str (da_cons (de_var 2) da_nil))) da_nil))))))
      (dss_cons (ds_set (i := 5) sc_L_shared_right.nd (de_call K H_L_copied (hr.mono (by decide)) G_L_copied.g G_L_copied.F.kp G_L_copied.b (da_cons (DF.v (df_lst (da_cons (de_var 4) (da_cons (de_var 4) da_nil)))) da_nil)))
      (dss_cons (ds_set (i := 6) sc_L_shared_right.nd (DN.v (dn_make K (T_Book.mkOf G_Book_init) H_Book_init (hr.mono (by decide)) T_Book.g G_Book_init.b (da_cons (de_var 1) (da_cons (DF.v (df_lst (da_cons (de_var 4) (da_cons (de_var 4) da_nil)))) da_nil)))))
      (dss_cons (ds_set (i := 7) sc_L_shared_right.nd (de_methV0 K 9 (de_var 6) T_Book.own.cl G_Book_bodies.meth H_Book_bodiesD (hr.mono (by decide)) G_Book_bodies.b))
      (dss_cons (ds_set (i := 8) sc_L_shared_right.nd (de_methV0 K 9 (de_var 6) T_Book.own.cl G_Book_bodies.meth H_Book_bodiesD (hr.mono (by decide)) G_Book_bodies.b))
      (dss_cons (ds_expr (de_callBx K 9 H_L_spoiled (hr.mono (by decide)) G_L_spoiled.g G_L_spoiled.F.kp G_L_spoiled.b (da_cons (de_var 7) da_nil)))
      (dss_cons (ds_if (dt_lendN 24 9 (DW.dt (dw_or (dt_not (dt_tr K (de_call K H_L_same (hr.mono (by decide)) G_L_same.g G_L_same.F.kp G_L_same.b (da_cons (de_var 7) (da_cons (de_call K H_L_longer (hr.mono (by decide)) G_L_longer.g G_L_longer.F.kp G_L_longer.b (da_cons (de_var 5) da_nil)) da_nil))))) (dw_or1 (dt_not (dt_tr K (de_call K H_L_same (hr.mono (by decide)) G_L_same.g G_L_same.F.kp G_L_same.b (da_cons (de_var 8) (da_cons (de_var 5) da_nil))))))))) (dss_one (ds_ret de_bl)) dss_nil)
      (dss_cons (ds_expr (de_callBx K 9 H_L_spoiled (hr.mono (by decide)) G_L_spoiled.g G_L_spoiled.F.kp G_L_spoiled.b (da_cons (de_var 8) da_nil)))
      (dss_cons (ds_if (dt_lendN 24 9 (DW.dt (dw_or (dt_not (dt_tr K (de_call K H_L_same (hr.mono (by decide)) G_L_same.g G_L_same.F.kp G_L_same.b (da_cons (de_var 8) (da_cons (de_call K H_L_longer (hr.mono (by decide)) G_L_longer.g G_L_longer.F.kp G_L_longer.b (da_cons (de_var 5) da_nil)) da_nil))))) (dw_or1 (dt_not (dt_tr K (de_call K H_L_tells (hr.mono (by decide)) G_L_tells.g G_L_tells.F.kp G_L_tells.b (da_cons (de_var 6) (da_cons (de_var 1) (da_cons (de_var 5) da_nil)))))))))) (dss_one (ds_ret de_bl)) dss_nil)
      (dss_one (ds_ret (de_call K H_L_same (hr.mono (by decide)) G_L_same.g G_L_same.F.kp G_L_same.b (da_cons (DF.v (df_lst (da_cons (de_var 3) (da_cons (de_ix K (de_var 4) de_int) da_nil)))) (da_cons (DF.v (df_lst (da_cons (DF.v (df_lst (da_cons (de_tup (da_cons de_str (da_cons (de_var 2) da_nil))) (da_cons (de_tup (da_cons de_str (da_cons de_int (da_cons (de_var 2) da_nil)))) da_nil)))) (da_cons (de_tup (da_cons de_str (da_cons (de_var 3) (da_cons (de_var 3) da_nil)))) da_nil)))) da_nil))))))))))))))))), ?_⟩
  rintro pl ds Q ⟨hp, c, rfl, ⟨hc1, hc3⟩, q⟩
  replace hc1 : 1 ≤ c := hc1
  replace hc3 : c ≤ 3 := hc3
  refine i_initB ?_
  show dSeq _ _ _ ([.own true pl, .val (.int (c : Nat)), .any, .any, .any, .any, .any, .any, .any, .hp false (fun _ => none)] : List Sl)
  walk_at "wb"
  refine ⟨hp, c, rfl, hc3, fun r pl hr hp => ?_⟩
  obtain ⟨row, e, hrow⟩ := hr
  subst e
  obtain ⟨BS, eBS⟩ : ∃ BS : List (List Sm), BS = [[.either [.carry row, .set 0 row] [.carry row, .set 0 row], .again [.carry row, .set 0 row], .carry row], [.either [.carry row, .set 0 row] [.carry row, .set 0 row], .again [.carry row, .set 0 row], .carry row]] := ⟨_, rfl⟩
  have hB : Bodies c 2 BS := by
    rw [eBS]
    refine ⟨rfl, fun b hb => ?_⟩
    have e : b = [.either [.carry row, .set 0 row] [.carry row, .set 0 row], .again [.carry row, .set 0 row], .carry row] := by
      rcases List.mem_cons.mp hb with h | h
      · exact h
      · exact List.mem_singleton.mp h
    subst e
    refine ⟨by show 3 ≤ 8; decide, ?_, by show 9 ≤ 12; decide⟩
    simp only [wfL, wf]
    exact ⟨⟨by decide, ⟨by show 2 ≤ 8; decide, hrow, ⟨hc1, hrow⟩, trivial⟩, by show 2 ≤ 8; decide, hrow, ⟨hc1, hrow⟩, trivial⟩, ⟨by decide, by show 2 ≤ 8; decide, hrow, ⟨hc1, hrow⟩, trivial⟩, hrow, trivial⟩
  have okB : okBk c 2 BS := ⟨hc1, hc3, by decide, by decide, hB⟩
  have eD : D.lst (blsD BS) = .lst (blsD [[.either [.carry row, .set 0 row] [.carry row, .set 0 row], .again [.carry row, .set 0 row], .carry row], [.either [.carry row, .set 0 row] [.carry row, .set 0 row], .again [.carry row, .set 0 row], .carry row]]) := by rw [eBS]
  have hsd : Sd 14 (.lst (blsD BS)) := sdep_bls hB hc3 (by decide)
  walk_at "wb"
  refine ⟨.lst (blsD BS), congrArg (fun x => [x]) eD.symm, Dep.le (by decide) hsd.dep, ?_⟩
  walk_at "wb"
  refine ⟨c, 2, BS, congrArg (fun x => [D.int (c : Nat), x]) eD.symm, okB, ?_⟩
  walk_at "wb"
  refine ⟨(c, 2, BS), rfl, okB, fun e1 L1 ⟨as1, h1⟩ => ?_⟩
  walk_at "wb"
  refine ⟨(c, 2, BS), rfl, okB, fun e2 L2 ⟨as2, h2⟩ => ?_⟩
  walk_at "wb"
  have h1 : NewT (fun _ => none) L1 (.lst (blsD BS)) e1 as1 := h1
  have h2 : NewT L1 L2 (.lst (blsD BS)) e2 as2 := h2
  have b1 : BxT L2 (.lst (blsD BS)) e1 as1 := h1.bx.ext h2.kp
  have dis : ∀ p, p ∈ as2 → p ∉ as1 := fun p hp2 hp1 => h1.bx.nin (h2.nw p hp2) hp1
  have hno : noObj (.lst (blsD BS)) = true := (pl_lst (pl_bls hB)).no
  have sD : ∀ L : Bxs, subX L (.lst (blsD BS)) = .lst (blsD BS) := fun L => subX_no L _ hno
  refine ⟨⟨.lst (blsD BS), e1, as1⟩, rfl, ⟨hsd.le (by decide), b1, h1.nd⟩, fun r L3 ⟨_, g1, g2⟩ => ?_⟩
  have g1 : BxT L3 (lgr (.lst (blsD BS))) e1 as1 := g1
  have g2 : ∀ p, p ∉ as1 → L3 p = L2 p := g2
  have b2 : BxT L3 (.lst (blsD BS)) e2 as2 := BxT.mono _ _ _ (fun p hp => g2 p (dis p hp)) h2.bx
  have t1 := BxT.sub 24 _ e1 as1 (Dep.le (by decide) (dep_lgr hsd)) g1
  have t2 := BxT.sub 24 _ e2 as2 (Dep.le (by decide) hsd.dep) b2
  have dl : Dep 20 (lgr (.lst (blsD BS))) := Dep.le (by decide) (dep_lgr hsd)
  walk_at "wb"
  rw [sD]
  refine ⟨_, rfl, hsd.le (by decide), ?_⟩
  walk_at "wb"
  rw [t1]
  refine ⟨_, rfl, dl, fun r hr => ?_⟩
  subst hr
  walk_at "wb"
  rw [t2, sD]
  refine ⟨_, rfl, Dep.le (by decide) hsd.dep, fun r hr => ?_⟩
  subst hr
  walk_at "wb"
  refine ⟨⟨.lst (blsD BS), e2, as2⟩, rfl, ⟨hsd.le (by decide), b2, h2.nd⟩, fun r L4 ⟨_, g3, g4⟩ => ?_⟩
  have g3 : BxT L4 (lgr (.lst (blsD BS))) e2 as2 := g3
  have t3 := BxT.sub 24 _ e2 as2 (Dep.le (by decide) (dep_lgr hsd)) g3
  walk_at "wb"
  rw [sD]
  refine ⟨_, rfl, hsd.le (by decide), ?_⟩
  walk_at "wb"
  rw [t3]
  refine ⟨_, rfl, dl, fun r hr => ?_⟩
  subst hr
  walk_at "wb"
  rw [sD, subX_int]
  refine ⟨(c, 2, BS), rfl, okB, ?_⟩
  walk_at "wb"
  have hc2 : Sd 4 (stD (.carry row)) := by
    have := sdep_stD (c := c) (m := 2) (k := 3) hc3 (.carry row) (by unfold wf; exact hrow)
    exact this.le (by show 3 * 0 + 3 ≤ 4; decide)
  have hs2 : Sd 4 (stD (.set 0 row)) := by
    have := sdep_stD (c := c) (m := 2) (k := 3) hc3 (.set 0 row) (by unfold wf; exact ⟨hc1, hrow⟩)
    exact this.le (by show 3 * 0 + 3 ≤ 4; decide)
  have hb2 : Sd 5 (.lst (blD [.carry row, .set 0 row])) := sdepL (by show 2 ≤ 1000; decide) (sdepA_cons hc2 (sdepA_cons hs2 sdepA_nil))
  have hall : Sd 8 (.lst [.lst (blD [.carry row, .set 0 row]), stD (.either [.carry row, .set 0 row] [.carry row, .set 0 row])]) := sdepL (by show 2 ≤ 1000; decide) (sdepA_cons (hb2.le (by decide)) (sdepA_cons (sdepT (by show 3 ≤ 1000; decide) (sdepA_cons trivial (sdepA_cons (hb2.le (by decide)) (sdepA_cons (hb2.le (by decide)) sdepA_nil)))) sdepA_nil))
  exact ⟨_, rfl, Dep.le (by decide) hall.dep, fun r hr => by subst hr; exact ⟨_, rfl, q _ _ rfl hp⟩⟩
end

/-! ### the law -/
abbrev s_law : Stmt := topS 48
theorem sc_law : FnScope ["_law_script", "_law_pool_here", "_law_cells", "_law_many", "_law_bodies_here", "_law_passed", "_law_book", "_law_told", "_law_same_here", "_law_left", "_law_turned_here", "_law_other", "_law_plain", "$"] ["_law_script"] (defScope s_law) := ⟨rfl, rfl, rfl, by decide +kernel, rfl, by decide +kernel, by decide +kernel⟩

open Bk
local macro_rules | `(tactic| walk_at "slots") => `(tactic| dsimp only [List.set_cons_zero, List.set_cons_succ])
section
variable {P : Program} {w : World} {K : PySem.W.Frag} {mg : Str → Option Value} {base : Heap}
theorem ok_law (M : Blt mg) (hSeer : seerB K = true) (hTree : P.given.tree = none) (G_is_integer : Gf K mg "is_integer" s_is_integer ["value"]) (G_is_vector : Gf K mg "is_vector" s_is_vector ["value", "width"]) (G_is_bit : Gf K mg "is_bit" s_is_bit ["value"]) (G_is_index : Gf K mg "is_index" s_is_index ["value", "many"]) (G_is_row : Gf K mg "is_row" s_is_row ["value", "cells"]) (G_are_cells : Gf K mg "are_cells" s_are_cells ["value", "cells"]) (G_blocks_of : Gf K mg "blocks_of" s_blocks_of ["statement"]) (G_copied_statement : Gf K mg "copied_statement" s_copied_statement ["statement"]) (G_copied_block : Gf K mg "copied_block" s_copied_block ["block"]) (T_SIZES : Dc K w mg "SIZES" [("set", 3), ("carry", 2), ("keep", 3), ("either", 3), ("again", 2), ("call", 4), ("end", 2)] []) (G_is_word : Gf K mg "is_word" s_is_word ["value"]) (G_is_command : Gf K mg "is_command" s_is_command ["value", "cells"]) (hDEEPEST : ∃ t, mg "DEEPEST" = some (.int 3 t)) (G_has_form : Gf K mg "has_form" s_has_form ["value", "level", "cells", "many"]) (hMOST_IN_LIST : ∃ t, mg "MOST_IN_LIST" = some (.int 8 t)) (hMOST_IN_PROCEDURE : ∃ t, mg "MOST_IN_PROCEDURE" = some (.int 12 t)) (G_first_fault : Gf K mg "first_fault" s_first_fault ["block", "level", "form", "path", "met"]) (hMOST_CELLS : ∃ t, mg "MOST_CELLS" = some (.int 3 t)) (hMOST_PROCEDURES : ∃ t, mg "MOST_PROCEDURES" = some (.int 3 t)) (T_Book : Tc K mg "Book" ["many", "own", "run_memo", "deed_memo"]) (G_Book_init : Gm K T_Book.C "__init__" "Book.__init__" s_Book_init ["self", "cells", "bodies"]) (G_Book_len : Gm K T_Book.C "__len__" "Book.__len__" s_Book_len ["self"]) (G_Book_cells : Gm K T_Book.C "cells" "Book.cells" s_Book_cells ["self"]) (G_Book_bodies : Gm K T_Book.C "bodies" "Book.bodies" s_Book_bodies ["self"]) (G_Book_eq : Gm K T_Book.C "__eq__" "Book.__eq__" s_Book_eq ["self", "other"]) (G_L_pool : Gf K mg "_law_pool" s_L_pool ["_law_script"]) (G_L_draw : Gf K mg "_law_draw" s_L_draw ["_law_pool_here", "_law_many"]) (G_L_row : Gf K mg "_law_row" s_L_row ["_law_pool_here", "_law_cells"]) (G_L_command : Gf K mg "_law_command" s_L_command ["_law_pool_here", "_law_cells"]) (G_L_some_cells : Gf K mg "_law_some_cells" s_L_some_cells ["_law_pool_here", "_law_cells"]) (G_L_block : Gf K mg "_law_block" s_L_block ["_law_pool_here", "_law_world", "_law_tier", "_law_most"]) (G_L_statement : Gf K mg "_law_statement" s_L_statement ["_law_pool_here", "_law_world", "_law_tier"]) (G_L_body : Gf K mg "_law_body" s_L_body ["_law_pool_here", "_law_cells", "_law_many", "_law_room", "_law_tier"]) (G_L_bodies : Gf K mg "_law_bodies" s_L_bodies ["_law_pool_here", "_law_cells", "_law_many", "_law_room"]) (G_L_copied : Gf K mg "_law_copied" s_L_copied ["_law_value"]) (G_L_same : Gf K mg "_law_same" s_L_same ["_law_actual", "_law_due"]) (G_L_longer : Gf K mg "_law_longer" s_L_longer ["_law_value"]) (G_L_spoiled : Gf K mg "_law_spoiled" s_L_spoiled ["_law_value"]) (G_L_turned : Gf K mg "_law_turned" s_L_turned ["_law_value", "_law_left"]) (G_L_tells : Gf K mg "_law_tells" s_L_tells ["_law_book", "_law_cells", "_law_bodies_here"]) (G_L_shared_right : Gf K mg "_law_shared_right" s_L_shared_right ["_law_pool_here", "_law_cells"]) (G_law : Gf K mg "law" s_law ["_law_script"]) : FnOk P w K mg base CX0 28 G_law.f G_law.fd ["_law_script"] (spS K specLaw) := by
  have H_L_draw : FnOk P w K mg base CX0 1 G_L_draw.f G_L_draw.fd ["_law_pool_here", "_law_many"] (spP K spec_L_draw) := ok_L_draw M G_L_draw
  have H_L_pool : FnOk P w K mg base CX0 1 G_L_pool.f G_L_pool.fd ["_law_script"] (spS K spec_L_pool) := ok_L_pool M G_L_pool
  have H_L_same := ok_L_same (P := P) (w := w) (base := base) M G_L_same 20
  have H_L_copied := ok_L_copied (P := P) (w := w) (base := base) M hSeer hTree G_L_copied 20
  have H_L_copiedB := ok_L_copiedB (P := P) (w := w) (base := base) M hSeer hTree G_L_copied 20
  have H_L_longer := ok_L_longer (P := P) (w := w) (base := base) M hSeer hTree G_L_longer 20
  have H_L_spoiled := ok_L_spoiled (P := P) (w := w) (base := base) M hSeer hTree G_L_spoiled 20 (Nat.le_refl _)
  have H_L_turned := ok_L_turned (P := P) (w := w) (base := base) M hSeer hTree G_L_turned 20
  have H_L_bodies := ok_L_bodies (P := P) (w := w) (base := base) M hSeer hTree G_L_draw G_L_row G_L_command G_L_some_cells G_L_block G_L_statement G_L_body G_L_bodies
  have H_Book_init := ok_Book_init (P := P) (w := w) (base := base) M hSeer hTree G_is_integer G_is_vector G_is_bit G_is_index G_is_row G_are_cells G_blocks_of G_copied_statement G_copied_block T_SIZES G_is_word G_is_command hDEEPEST G_has_form hMOST_IN_LIST hMOST_IN_PROCEDURE G_first_fault hMOST_CELLS hMOST_PROCEDURES T_Book G_Book_init
  have H_Book_initC := ok_Book_initC (P := P) (w := w) (base := base) M hSeer hTree G_is_integer G_is_vector G_is_bit G_is_index G_is_row G_are_cells G_blocks_of G_copied_statement G_copied_block T_SIZES G_is_word G_is_command hDEEPEST G_has_form hMOST_IN_LIST hMOST_IN_PROCEDURE G_first_fault hMOST_CELLS hMOST_PROCEDURES T_Book G_Book_init
  have H_Book_bodiesD := ok_Book_bodiesD (P := P) (w := w) (base := base) M hSeer hTree G_blocks_of G_copied_statement G_copied_block T_Book G_Book_bodies
  have H_Book_eq := ok_Book_eq2 (P := P) (w := w) (base := base) M hSeer hTree T_Book G_Book_eq
  have H_L_tells := ok_L_tells (P := P) (w := w) (base := base) M hSeer hTree G_blocks_of G_copied_statement G_copied_block T_Book G_Book_len G_Book_cells G_Book_bodies G_L_same G_L_tells
  have H_L_shared_right := ok_L_shared_right (P := P) (w := w) (base := base) M hSeer hTree G_is_integer G_is_vector G_is_bit G_is_index G_is_row G_are_cells G_blocks_of G_copied_statement G_copied_block T_SIZES G_is_word G_is_command hDEEPEST G_has_form hMOST_IN_LIST hMOST_IN_PROCEDURE G_first_fault hMOST_CELLS hMOST_PROCEDURES T_Book G_Book_init G_Book_len G_Book_cells G_Book_bodies G_L_draw G_L_row G_L_copied G_L_same G_L_longer G_L_spoiled G_L_tells G_L_shared_right
  refine fn_okS G_law.F sc_law rfl fun cdv A outer s0 H E hr => ⟨_, _, (dss_initB 13 (dss_cons (ds_setO (i := 1) sc_law.nd (df_callScr K 0 H_L_pool (hr.mono (by decide)) G_L_pool.g G_L_pool.F.kp G_L_pool.b))
      (dss_cons (ds_set (i := 2) sc_law.nd (de_add de_int (de_callP K 1 H_L_draw (hr.mono (by decide)) G_L_draw.g G_L_draw.F.kp G_L_draw.b (da_cons de_int da_nil))))
      (dss_cons (ds_set (i := 3) sc_law.nd (de_add de_int (de_callP K 1 H_L_draw (hr.mono (by decide)) G_L_draw.g G_L_draw.F.kp G_L_draw.b (da_cons de_int da_nil))))
      (dss_cons (ds_setO (i := 4) sc_law.nd (df_callP K 1 H_L_bodies (hr.mono (by decide)) G_L_bodies.g G_L_bodies.F.kp G_L_bodies.b (da_cons (de_var 2) (da_cons (de_var 3) (da_cons de_int da_nil)))))
      (dss_cut (ds_if (dt_eq (de_callP K 1 H_L_draw (hr.mono (by decide)) G_L_draw.g G_L_draw.F.kp G_L_draw.b (da_cons de_int da_nil)) de_int) (dss_one (ds_sub 4 (DF.v (df_lst da_nil)) (de_callP K 1 H_L_draw (hr.mono (by decide)) G_L_draw.g G_L_draw.F.kp G_L_draw.b (da_cons (de_var 3) da_nil)))) dss_nil)
      (dss_frz 4 (dss_cons (ds_set (i := 5) sc_law.nd (de_callBx K 13 H_L_copiedB (hr.mono (by decide)) G_L_copied.g G_L_copied.F.kp G_L_copied.b (da_cons (de_var 4) da_nil)))
      (dss_cons (ds_set (i := 6) sc_law.nd (de_frzO 13 (de_makeB K 13 (T_Book.mkOf G_Book_init) H_Book_initC (hr.mono (by decide)) T_Book.g G_Book_init.b (da_cons (de_var 2) (da_cons (de_var 5) da_nil)))))
      (dss_cons (ds_if (dt_lendN 24 13 (DW.dt (dw_or (dt_not (dt_tr K (de_call K H_L_tells (hr.mono (by decide)) G_L_tells.g G_L_tells.F.kp G_L_tells.b (da_cons (de_var 6) (da_cons (de_var 2) (da_cons (de_var 4) da_nil)))))) (dw_or1 (dt_not (dt_tr K (de_call K H_L_same (hr.mono (by decide)) G_L_same.g G_L_same.F.kp G_L_same.b (da_cons (de_var 5) (da_cons (de_var 4) da_nil))))))))) (dss_one (ds_ret de_bl)) dss_nil)
      (dss_cons (ds_expr (de_callBx K 13 H_L_spoiled (hr.mono (by decide)) G_L_spoiled.g G_L_spoiled.F.kp G_L_spoiled.b (da_cons (de_var 5) da_nil)))
      (dss_cons (ds_if (dt_not (dt_tr K (de_call K H_L_tells (hr.mono (by decide)) G_L_tells.g G_L_tells.F.kp G_L_tells.b (da_cons (de_var 6) (da_cons (de_var 2) (da_cons (de_var 4) da_nil)))))) (dss_one (ds_ret de_bl)) dss_nil)
      (dss_cons (ds_set (i := 7) sc_law.nd (de_methV0 K 13 (de_var 6) T_Book.own.cl G_Book_bodies.meth H_Book_bodiesD (hr.mono (by decide)) G_Book_bodies.b))
      (dss_cons (ds_expr (de_callBx K 13 H_L_spoiled (hr.mono (by decide)) G_L_spoiled.g G_L_spoiled.F.kp G_L_spoiled.b (da_cons (de_var 7) da_nil)))
      (dss_cons (ds_if (dt_lendN 24 13 (dt_not (dt_tr K (de_call K H_L_same (hr.mono (by decide)) G_L_same.g G_L_same.F.kp G_L_same.b (da_cons (de_var 7) (da_cons (de_call K H_L_longer (hr.mono (by decide)) G_L_longer.g G_L_longer.F.kp G_L_longer.b (da_cons (de_var 4) da_nil)) da_nil)))))) (dss_one (ds_ret de_bl)) dss_nil)
      (dss_cons (ds_if (dt_not (dt_tr K (de_call K H_L_tells (hr.mono (by decide)) G_L_tells.g G_L_tells.F.kp G_L_tells.b (da_cons (de_var 6) (da_cons (de_var 2) (da_cons (de_var 4) da_nil)))))) (dss_one (ds_ret de_bl)) dss_nil)
      (dss_cons (ds_if (dt_not (dt_tr K (de_callP K 1 H_L_shared_right (hr.mono (by decide)) G_L_shared_right.g G_L_shared_right.F.kp G_L_shared_right.b (da_cons (de_var 2) da_nil)))) (dss_one (ds_ret de_bl)) dss_nil)
      (dss_cons (ds_set (i := 8) sc_law.nd (DN.v (dn_make K (T_Book.mkOf G_Book_init) H_Book_init (hr.mono (by decide)) T_Book.g G_Book_init.b (da_cons (de_var 2) (da_cons (de_call K H_L_copied (hr.mono (by decide)) G_L_copied.g G_L_copied.F.kp G_L_copied.b (da_cons (de_var 4) da_nil)) da_nil)))))
      (dss_cons (ds_if (DW.dt (dw_or (dt_isnotBl (de_eqO K H_Book_eq (hr.mono (by decide)) (G_Book_eq.at) (G_Book_eq.fn) (G_Book_eq.b) (de_var 6) (de_var 8)) de_bl) (dw_or1 (dt_isnotBl (de_eqO K H_Book_eq (hr.mono (by decide)) (G_Book_eq.at) (G_Book_eq.fn) (G_Book_eq.b) (de_var 8) (de_var 6)) de_bl)))) (dss_one (ds_ret de_bl)) dss_nil)
      (dss_cons (ds_set (i := 9) sc_law.nd (de_newB 13 (df_lst (da_cons de_int da_nil))))
      (dss_cons (ds_set (i := 10) sc_law.nd (de_callBx K 13 H_L_turned (hr.mono (by decide)) G_L_turned.g G_L_turned.F.kp G_L_turned.b (da_cons (de_var 4) (da_cons (de_var 9) da_nil))))
      (dss_cut (ds_if (DW.dt (dw_and (dt_eq (de_ixB K 13 (de_var 9) de_int) de_int) (dw_and1 (dt_isnotBl (de_eqO K H_Book_eq (hr.mono (by decide)) (G_Book_eq.at) (G_Book_eq.fn) (G_Book_eq.b) (de_var 6) (DN.v (dn_make K (T_Book.mkOf G_Book_init) H_Book_init (hr.mono (by decide)) T_Book.g G_Book_init.b (da_cons (de_var 2) (da_cons (de_var 10) da_nil))))) de_bl)))) (dss_one (ds_ret de_bl)) dss_nil)
      (dss_cons (ds_set (i := 11) sc_law.nd (DF.v (df_listRev K M.list M.reversed (DF.v (df_list K M.list (de_var 4))))))
      (dss_cons (ds_if (dt_ne (de_isBl (de_eqO K H_Book_eq (hr.mono (by decide)) (G_Book_eq.at) (G_Book_eq.fn) (G_Book_eq.b) (de_var 6) (DN.v (dn_make K (T_Book.mkOf G_Book_init) H_Book_init (hr.mono (by decide)) T_Book.g G_Book_init.b (da_cons (de_var 2) (da_cons (de_call K H_L_copied (hr.mono (by decide)) G_L_copied.g G_L_copied.F.kp G_L_copied.b (da_cons (de_var 11) da_nil)) da_nil))))) de_bl) (de_eqD K hr (de_var 11) (de_var 4))) (dss_one (ds_ret de_bl)) dss_nil)
      (dss_cons (ds_set (i := 12) sc_law.nd (DF.v (df_lst (da_cons (DF.v (df_lst da_nil)) (da_cons (DF.v (df_lst (da_cons (de_tup (da_cons de_str (da_cons de_int da_nil))) da_nil))) da_nil)))))
      (dss_one (ds_ret (de_and (de_isBl (de_eqO K H_Book_eq (hr.mono (by decide)) (G_Book_eq.at) (G_Book_eq.fn) (G_Book_eq.b) (DN.v (dn_make K (T_Book.mkOf G_Book_init) H_Book_init (hr.mono (by decide)) T_Book.g G_Book_init.b (da_cons (de_var 2) (da_cons (de_var 12) da_nil)))) (DN.v (dn_make K (T_Book.mkOf G_Book_init) H_Book_init (hr.mono (by decide)) T_Book.g G_Book_init.b (da_cons (de_var 2) (da_cons (DF.v (df_sl K (de_var 12) do_none (do_some de_int))) da_nil))))) de_bl) (de_one (de_isBl (de_eqO K H_Book_eq (hr.mono (by decide)) (G_Book_eq.at) (G_Book_eq.fn) (G_Book_eq.b) (DN.v (dn_make K (T_Book.mkOf G_Book_init) H_Book_init (hr.mono (by decide)) T_Book.g G_Book_init.b (da_cons de_int (da_cons (de_var 12) da_nil)))) (DN.v (dn_make K (T_Book.mkOf G_Book_init) H_Book_init (hr.mono (by decide)) T_Book.g G_Book_init.b (da_cons de_int (da_cons (de_var 12) da_nil))))) de_bl)))))))))))))))))))))))))))))), ?_⟩
  rintro ns Q ⟨h63, q⟩
  refine i_initB ?_
  walk_at "wb"
  refine ⟨h63, fun pl hp => ?_⟩
  walk_at "wb"
  refine draw_i (many := 3) hp (.of (by omega)) fun k pl k0 k1 hp => ?_
  obtain ⟨c, ec⟩ : ∃ n : Nat, 1 + k = (n : Int) := ⟨(1 + k).toNat, by omega⟩
  have hc1 : 1 ≤ c := by omega
  have hc3 : c ≤ 3 := by omega
  walk_at "wb"
  rw [ec]
  clear ec k0 k1 k
  refine draw_i (many := 3) hp (.of (by omega)) fun k pl k0 k1 hp => ?_
  obtain ⟨m, em⟩ : ∃ n : Nat, 1 + k = (n : Int) := ⟨(1 + k).toNat, by omega⟩
  have hm1 : 1 ≤ m := by omega
  have hm3 : m ≤ 3 := by omega
  walk_at "wb"
  rw [em]
  clear em k0 k1 k
  rw [show D.int 12 = D.int ((12 : Nat) : Int) from rfl]
  refine ⟨hp, (c, m, 12), rfl, ⟨hc3, hm1, hm3, by show 1 ≤ 12; decide, by show 12 ≤ 12; decide⟩, fun r pl' ⟨bs, e, hbl, hbs⟩ hp => ?_⟩
  subst e
  walk_at "wb"
  replace hbl : bs.length = m := hbl
  have hB : Bodies c m bs := ⟨hbl, fun b hb => let ⟨z1, z2, z3⟩ := hbs b hb; ⟨Nat.le_trans z1 (by decide), z2, z3⟩⟩
  clear hbs hbl
  refine ⟨fun γ => ∃ pl bs, PoolP pl ∧ Bodies c m bs ∧ γ = [.scr ns, .own false pl, .val (.int (c : Nat)), .val (.int (m : Nat)), .own false (blsD bs), .any, .any, .any, .any, .any, .any, .any, .any, .hp false (fun _ => none)], ?_, ?_⟩
  · walk_at "wb"
    refine draw_i (many := 5) hp (.of (by omega)) fun k pl k0 k1 hp => ?_
    walk_at "wb"
    refine i_ite (fun h => ?_) (fun h => ?_)
    · walk_at "wb"
      refine draw_i (many := (m : Int)) hp (.of (by omega)) fun k pl k0 k1 hp => ?_
      obtain ⟨i, rfl⟩ : ∃ i : Nat, k = (i : Int) := ⟨k.toNat, by omega⟩
      have hi : i < bs.length := by rw [hB.len]; omega
      walk_at "wb"
      refine ⟨_, _, _, i, rfl, rfl, ixN_n (by rw [blsD_len]; exact hi), fun z => (by cases z), ?_⟩
      have e : (blsD bs).set i (.lst []) = blsD (bs.set i []) := by rw [blsD, blsD, List.map_set]; rfl
      rw [e]
      refine ⟨pl, bs.set i [], hp, ⟨by rw [List.length_set]; exact hB.len, fun b hb => ?_⟩, rfl⟩
      rcases List.mem_or_eq_of_mem_set hb with z | z
      · exact hB.body b z
      · subst z; exact ⟨by decide, by unfold wfL; trivial, by decide⟩
    · walk_at "wb"
      exact ⟨pl, bs, hp, hB, rfl⟩
  rintro γ ⟨pl, bs, hp, hB, rfl⟩
  have hbl := hB.len
  have okB : okBk c m bs := ⟨hc1, hc3, hm1, hm3, hB⟩
  have hsd : Sd 14 (.lst (blsD bs)) := sdep_bls hB hc3 hm3
  have hd20 : Dep 20 (.lst (blsD bs)) := Dep.le (by decide) hsd.dep
  have hno : noObj (.lst (blsD bs)) = true := (pl_lst (pl_bls hB)).no
  have sD : ∀ L : Bxs, subX L (.lst (blsD bs)) = .lst (blsD bs) := fun L => subX_no L _ hno
  walk_at "wb"
  refine ⟨.lst (blsD bs), rfl, hd20, fun e L1 ⟨as, h1⟩ => ?_⟩
  walk_at "wb"
  intro p hp1
  refine ⟨⟨c, m, bs, p, e, as⟩, rfl, ⟨okB, updB_same, h1.bx.ext (.new hp1), h1.bx.nin hp1⟩, fun v L2 ⟨hv, g1, g2⟩ => ?_⟩
  have hpn : p ∉ as := h1.bx.nin hp1
  have b3 : BxT (delB L2 p) (.lst (blsD bs)) e as := BxT.mono _ _ _ (fun x hx => by
    have hne : x ≠ p := fun z => hpn (z ▸ hx)
    exact (delB_ne hne).trans ((g2 x hne).trans (updB_ne hne))) h1.bx
  have t1 := BxT.sub 24 _ e as (Dep.le (by decide) hsd.dep) b3
  refine ⟨hv, _, p, _, _, rfl, rfl, g1, ?_⟩
  generalize delB L2 p = L3 at b3 t1 ⊢
  try walk_at "slots"
  walk_at "wb"
  rw [sD, subX_int]
  refine ⟨(c, m, bs), rfl, okB, ?_⟩
  walk_at "wb"
  rw [t1, sD]
  refine ⟨_, rfl, hd20, fun r hr => ?_⟩
  subst hr
  walk_at "wb"
  refine ⟨⟨.lst (blsD bs), e, as⟩, rfl, ⟨hsd.le (by decide), b3, h1.nd⟩, fun r L4 _ => ?_⟩
  walk_at "wb"
  refine ⟨(c, m, bs), rfl, okB, ?_⟩
  walk_at "wb"
  refine ⟨(c, m, bs), rfl, okB, fun e2 L5 ⟨as2, h2⟩ => ?_⟩
  walk_at "wb"
  refine ⟨⟨.lst (blsD bs), e2, as2⟩, rfl, ⟨hsd.le (by decide), h2.bx, h2.nd⟩, fun r L6 ⟨_, g3, _⟩ => ?_⟩
  have g3 : BxT L6 (lgr (.lst (blsD bs))) e2 as2 := g3
  have t2 := BxT.sub 24 _ e2 as2 (Dep.le (by decide) (dep_lgr hsd)) g3
  try walk_at "slots"
  walk_at "wb"
  rw [sD]
  refine ⟨_, rfl, hsd.le (by decide), ?_⟩
  walk_at "wb"
  rw [t2]
  refine ⟨_, rfl, Dep.le (by decide) (dep_lgr hsd), fun r hr => ?_⟩
  subst hr
  walk_at "wb"
  refine ⟨(c, m, bs), rfl, okB, ?_⟩
  walk_at "wb"
  refine ⟨hp, c, rfl, ⟨hc1, hc3⟩, fun r pl hr hp => ?_⟩
  subst hr
  walk_at "wb"
  refine ⟨.lst (blsD bs), rfl, hd20, ?_⟩
  walk_at "wb"
  refine ⟨c, m, bs, rfl, okB, ?_⟩
  walk_at "wb"
  have eqb : ∀ (c1 m1 : Nat) (a1 : List (List Sm)) (c2 m2 : Nat) (a2 : List (List Sm)) (v : Bool) (F : Rv → Prop), okBk c1 m1 a1 → okBk c2 m2 a2 → (v = true ↔ c1 = c2 ∧ a1 = a2) → F (.d (.bl v)) → (spec_bookeq2 T_Book.C).S [bookD T_Book.C c1 a1, bookD T_Book.C c2 a2] F := fun c1 m1 a1 c2 m2 a2 v F h1 h2 hv hF => ⟨⟨c1, m1, a1, c2, m2, a2⟩, rfl, ⟨h1, h2⟩, fun r ⟨v', e, hv'⟩ => by
    subst e
    have : v' = v := Bool.eq_iff_iff.mpr (hv'.trans hv.symm)
    subst this
    exact hF⟩
  refine eqb c m bs c m bs true _ okB okB ⟨fun _ => ⟨rfl, rfl⟩, fun _ => rfl⟩ ?_
  refine ⟨_, rfl, ?_⟩
  walk_at "wb"
  refine eqb c m bs c m bs true _ okB okB ⟨fun _ => ⟨rfl, rfl⟩, fun _ => rfl⟩ ?_
  refine ⟨_, rfl, ?_⟩
  walk_at "wb"
  intro q0 hq0
  try walk_at "slots"
  walk_at "wb"
  have tok : TA.ok c m (.tbs bs) := ⟨by omega, fun b hb => ⟨(hB.body b hb).1, 3, (hB.body b hb).2.1⟩⟩
  refine ⟨⟨.tbs bs, false, q0, c, m⟩, rfl, ⟨⟨hsd.le (by decide), hc3, tok⟩, updB_same⟩, fun v L7 ⟨hv, g5, _⟩ => ?_⟩
  have hv : v = .lst (blsD (trBs bs false).1) := hv
  have g5 : L7 q0 = some (.lst [.int (fI (trBs bs false).2)]) := g5
  subst hv
  refine ⟨fun γ => ∃ (L : Bxs) (s5 s7 s8 s9 s10 : Sl), γ = [.scr ns, .own false pl, .val (.int (c : Nat)), .val (.int (m : Nat)), .val (.lst (blsD bs)), s5, .val (bookD T_Book.C c bs), s7, s8, s9, s10, .any, .any, .hp false L], ?_, ?_⟩
  · have hT := trBs_bodies hB false
    have hne := trBs_ne bs fun b hb => ⟨3, (hB.body b hb).2.1⟩
    have okT : okBk c m (trBs bs false).1 := ⟨hc1, hc3, hm1, hm3, hT⟩
    obtain ⟨B', f', e'⟩ : ∃ B' f', trBs bs false = (B', f') := ⟨_, _, rfl⟩
    rw [e'] at g5 hT hne okT ⊢
    cases f' with
    | true =>
      walk_at "wb"
      refine ⟨c, m, B', rfl, okT, ?_⟩
      walk_at "wb"
      refine eqb c m bs c m B' false _ okB okT ⟨fun z => (by cases z), fun z => absurd z.2.symm (hne rfl)⟩ ?_
      refine ⟨_, rfl, ?_⟩
      walk_at "wb"
      exact ⟨_, _, _, _, _, _, rfl⟩
    | false =>
      walk_at "wb"
      exact ⟨_, _, _, _, _, _, rfl⟩
  rintro γ ⟨L, s5, s7, s8, s9, s10, rfl⟩
  have hR : Bodies c m bs.reverse := ⟨by rw [List.length_reverse]; exact hbl, fun b hb => hB.body b (List.mem_reverse.mp hb)⟩
  have okR : okBk c m bs.reverse := ⟨hc1, hc3, hm1, hm3, hR⟩
  have eR : (blsD bs).reverse = blsD bs.reverse := (List.map_reverse).symm
  have hnR : ∀ d ∈ blsD bs.reverse, PlN 40 d := pl_bls hR
  walk_at "wb"
  rw [eR]
  refine ⟨.lst (blsD bs.reverse), rfl, Dep.le (by decide) (sdep_bls hR hc3 hm3).dep, ?_⟩
  walk_at "wb"
  refine ⟨c, m, bs.reverse, rfl, okR, ?_⟩
  walk_at "wb"
  refine eqb c m bs c m bs.reverse (eqD (.lst (blsD bs.reverse)) (.lst (blsD bs))) _ okB okR ((eqD_bls2 bs.reverse bs).trans ⟨fun z => ⟨rfl, z.symm⟩, fun z => z.2.symm⟩) ?_
  refine ⟨_, rfl, ?_⟩
  walk_at "wb"
  refine ⟨(pl_lst hnR).pl (by decide), (pl_lst (pl_bls hB)).pl (by decide), ?_⟩
  rw [if_neg Bool.false_ne_true]
  generalize eqD (.lst (blsD bs.reverse)) (.lst (blsD bs)) = v
  walk_at "wb"
  refine i_iteB (fun h => ?_) (fun _ => ?_)
  · cases v <;> cases h
  have hP : Bodies c 2 [[], [.end_ 1]] := ⟨rfl, fun b hb => by
    rcases List.mem_cons.mp hb with rfl | hb
    · exact ⟨by decide, by unfold wfL; trivial, by decide⟩
    · rw [List.mem_singleton.mp hb]
      exact ⟨by decide, by simp [wfL, wf], by decide⟩⟩
  have hP1 : Bodies c 1 [[]] := ⟨rfl, fun b hb => by
    rw [List.mem_singleton.mp hb]
    exact ⟨by decide, by unfold wfL; trivial, by decide⟩⟩
  have hQ : ∀ c, Bodies c 2 [[], [.end_ 1]] := fun c => ⟨rfl, fun b hb => by
    rcases List.mem_cons.mp hb with rfl | hb
    · exact ⟨by decide, by unfold wfL; trivial, by decide⟩
    · rw [List.mem_singleton.mp hb]
      exact ⟨by decide, by simp [wfL, wf], by decide⟩⟩
  walk_at "wb"
  refine ⟨c, 2, [[], [.end_ 1]], rfl, ⟨hc1, hc3, by decide, by decide, hP⟩, ?_⟩
  walk_at "wb"
  refine ⟨c, 1, [[]], rfl, ⟨hc1, hc3, by decide, by decide, hP1⟩, ?_⟩
  walk_at "wb"
  refine eqb c 2 [[], [.end_ 1]] c 1 [[]] false _ ⟨hc1, hc3, by decide, by decide, hP⟩ ⟨hc1, hc3, by decide, by decide, hP1⟩ ⟨fun z => (by cases z), fun z => (by cases z.2)⟩ ?_
  walk_at "wb"
  refine ⟨1, 2, [[], [.end_ 1]], rfl, ⟨by decide, by decide, by decide, by decide, hQ 1⟩, ?_⟩
  walk_at "wb"
  refine ⟨2, 2, [[], [.end_ 1]], rfl, ⟨by decide, by decide, by decide, by decide, hQ 2⟩, ?_⟩
  walk_at "wb"
  refine eqb 1 2 [[], [.end_ 1]] 2 2 [[], [.end_ 1]] false _ ⟨by decide, by decide, by decide, by decide, hQ 1⟩ ⟨by decide, by decide, by decide, by decide, hQ 2⟩ ⟨fun z => (by cases z), fun z => (by cases z.1)⟩ ?_
  walk_at "wb"
  exact q
end

theorem bd_law {K : PySem.W.Frag} {f : Addr} {fd : FuncData} (F : FunD K "law" "law" (defArgs s_law) (defBody s_law) (defScope s_law) [] [] f fd) (s : Shared) (us : List Value) (hl : us.length = (["_law_script"] : List Str).length) : BindsTo s fd ⟨us, []⟩ ((["_law_script"] : List Str).zip us) := FunD.bindsA (ps := ["_law_script"]) F (fun _ _ _ _ _ _ us hl => match us, hl with | [_], _ => rfl) s us hl
theorem factsT {P : Program} {w : World} {K : PySem.W.Frag} {h : Heap} {mg : Str → Option Value} {f : Addr} (hTree : P.given.tree = none) (X : K.In h) (G : h.Ns mainGlobals mg) (hfa : mg ("law" : Str) = some (.ref f)) (cet : SaysET faT fnT exT tsT w K) :
    ∃ fd : FuncData, (∀ (s : Shared) (v : Value), BindsTo s fd ⟨[v], []⟩ [("_law_script", v)]) ∧ ∀ base : Heap, K.In base → base.Ns mainGlobals mg → FnOk P w K mg base CX0 28 f fd ["_law_script"] (spS K specLaw) := by
  have ce := cet.e
  have c := ce.d
  have hSeer : seerB K = true := ce.ex 2 (e := seerB) rfl
  let T_Book : Tc K mg "Book" ["many", "own", "run_memo", "deed_memo"] := Tc.of X G (c.fact 54 (f := .glo "Book") rfl) (ce.ex 0 (e := clsB "Book") rfl) (ce.ex 1 (e := noatB "Book" ["many", "own", "run_memo", "deed_memo"]) rfl)
  let T_SIZES : Dc K w mg "SIZES" [("set", 3), ("carry", 2), ("keep", 3), ("either", 3), ("again", 2), ("call", 4), ("end", 2)] [] := Dc.of X G (c.fact 60 (f := .glo "SIZES") rfl) (cet.tab 0 rfl) (ce.ex 3 (e := kdB "SIZES" [("set", 3), ("carry", 2), ("keep", 3), ("either", 3), ("again", 2), ("call", 4), ("end", 2)] []) rfl)
  have hMOST_CELLS : ∃ t, mg "MOST_CELLS" = some (.int 3 t) := He.int_ok X G (c.fact 55 (f := .int "MOST_CELLS" 3) rfl)
  have hMOST_PROCEDURES : ∃ t, mg "MOST_PROCEDURES" = some (.int 3 t) := He.int_ok X G (c.fact 56 (f := .int "MOST_PROCEDURES" 3) rfl)
  have hMOST_IN_LIST : ∃ t, mg "MOST_IN_LIST" = some (.int 8 t) := He.int_ok X G (c.fact 57 (f := .int "MOST_IN_LIST" 8) rfl)
  have hMOST_IN_PROCEDURE : ∃ t, mg "MOST_IN_PROCEDURE" = some (.int 12 t) := He.int_ok X G (c.fact 58 (f := .int "MOST_IN_PROCEDURE" 12) rfl)
  have hDEEPEST : ∃ t, mg "DEEPEST" = some (.int 3 t) := He.int_ok X G (c.fact 59 (f := .int "DEEPEST" 3) rfl)
  obtain ⟨d_is_integer, F_is_integer⟩ := c.def_ 0 (d := dt_is_integer) rfl
  let G_is_integer : Gf K mg "is_integer" s_is_integer ["value"] := ⟨_, d_is_integer, fun_of F_is_integer, He.glo_ok X G (c.fact 0 (f := .glo "is_integer") rfl), FunD.bindsN (ps := ["value"]) F_is_integer fun _ _ _ _ _ _ us hl => match us, hl with | [_], _ => rfl⟩
  obtain ⟨d_is_bit, F_is_bit⟩ := c.def_ 1 (d := dt_is_bit) rfl
  let G_is_bit : Gf K mg "is_bit" s_is_bit ["value"] := ⟨_, d_is_bit, fun_of F_is_bit, He.glo_ok X G (c.fact 1 (f := .glo "is_bit") rfl), FunD.bindsN (ps := ["value"]) F_is_bit fun _ _ _ _ _ _ us hl => match us, hl with | [_], _ => rfl⟩
  obtain ⟨d_is_index, F_is_index⟩ := c.def_ 2 (d := dt_is_index) rfl
  let G_is_index : Gf K mg "is_index" s_is_index ["value", "many"] := ⟨_, d_is_index, fun_of F_is_index, He.glo_ok X G (c.fact 2 (f := .glo "is_index") rfl), FunD.bindsN (ps := ["value", "many"]) F_is_index fun _ _ _ _ _ _ us hl => match us, hl with | [_, _], _ => rfl⟩
  obtain ⟨d_is_vector, F_is_vector⟩ := c.def_ 3 (d := dt_is_vector) rfl
  let G_is_vector : Gf K mg "is_vector" s_is_vector ["value", "width"] := ⟨_, d_is_vector, fun_of F_is_vector, He.glo_ok X G (c.fact 3 (f := .glo "is_vector") rfl), FunD.bindsN (ps := ["value", "width"]) F_is_vector fun _ _ _ _ _ _ us hl => match us, hl with | [_, _], _ => rfl⟩
  obtain ⟨d_is_row, F_is_row⟩ := c.def_ 4 (d := dt_is_row) rfl
  let G_is_row : Gf K mg "is_row" s_is_row ["value", "cells"] := ⟨_, d_is_row, fun_of F_is_row, He.glo_ok X G (c.fact 4 (f := .glo "is_row") rfl), FunD.bindsN (ps := ["value", "cells"]) F_is_row fun _ _ _ _ _ _ us hl => match us, hl with | [_, _], _ => rfl⟩
  obtain ⟨d_are_cells, F_are_cells⟩ := c.def_ 5 (d := dt_are_cells) rfl
  let G_are_cells : Gf K mg "are_cells" s_are_cells ["value", "cells"] := ⟨_, d_are_cells, fun_of F_are_cells, He.glo_ok X G (c.fact 5 (f := .glo "are_cells") rfl), FunD.bindsN (ps := ["value", "cells"]) F_are_cells fun _ _ _ _ _ _ us hl => match us, hl with | [_, _], _ => rfl⟩
  obtain ⟨d_blocks_of, F_blocks_of⟩ := c.def_ 6 (d := dt_blocks_of) rfl
  let G_blocks_of : Gf K mg "blocks_of" s_blocks_of ["statement"] := ⟨_, d_blocks_of, fun_of F_blocks_of, He.glo_ok X G (c.fact 6 (f := .glo "blocks_of") rfl), FunD.bindsN (ps := ["statement"]) F_blocks_of fun _ _ _ _ _ _ us hl => match us, hl with | [_], _ => rfl⟩
  obtain ⟨d_copied_statement, F_copied_statement⟩ := c.def_ 7 (d := dt_copied_statement) rfl
  let G_copied_statement : Gf K mg "copied_statement" s_copied_statement ["statement"] := ⟨_, d_copied_statement, fun_of F_copied_statement, He.glo_ok X G (c.fact 7 (f := .glo "copied_statement") rfl), FunD.bindsN (ps := ["statement"]) F_copied_statement fun _ _ _ _ _ _ us hl => match us, hl with | [_], _ => rfl⟩
  obtain ⟨d_copied_block, F_copied_block⟩ := c.def_ 8 (d := dt_copied_block) rfl
  let G_copied_block : Gf K mg "copied_block" s_copied_block ["block"] := ⟨_, d_copied_block, fun_of F_copied_block, He.glo_ok X G (c.fact 8 (f := .glo "copied_block") rfl), FunD.bindsN (ps := ["block"]) F_copied_block fun _ _ _ _ _ _ us hl => match us, hl with | [_], _ => rfl⟩
  obtain ⟨d_is_word, F_is_word⟩ := c.def_ 9 (d := dt_is_word) rfl
  let G_is_word : Gf K mg "is_word" s_is_word ["value"] := ⟨_, d_is_word, fun_of F_is_word, He.glo_ok X G (c.fact 9 (f := .glo "is_word") rfl), FunD.bindsN (ps := ["value"]) F_is_word fun _ _ _ _ _ _ us hl => match us, hl with | [_], _ => rfl⟩
  obtain ⟨d_is_command, F_is_command⟩ := c.def_ 10 (d := dt_is_command) rfl
  let G_is_command : Gf K mg "is_command" s_is_command ["value", "cells"] := ⟨_, d_is_command, fun_of F_is_command, He.glo_ok X G (c.fact 10 (f := .glo "is_command") rfl), FunD.bindsN (ps := ["value", "cells"]) F_is_command fun _ _ _ _ _ _ us hl => match us, hl with | [_, _], _ => rfl⟩
  obtain ⟨d_has_form, F_has_form⟩ := c.def_ 11 (d := dt_has_form) rfl
  let G_has_form : Gf K mg "has_form" s_has_form ["value", "level", "cells", "many"] := ⟨_, d_has_form, fun_of F_has_form, He.glo_ok X G (c.fact 11 (f := .glo "has_form") rfl), FunD.bindsN (ps := ["value", "level", "cells", "many"]) F_has_form fun _ _ _ _ _ _ us hl => match us, hl with | [_, _, _, _], _ => rfl⟩
  obtain ⟨d_first_fault, F_first_fault⟩ := c.def_ 12 (d := dt_first_fault) rfl
  let G_first_fault : Gf K mg "first_fault" s_first_fault ["block", "level", "form", "path", "met"] := ⟨_, d_first_fault, fun_of F_first_fault, He.glo_ok X G (c.fact 12 (f := .glo "first_fault") rfl), FunD.bindsN (ps := ["block", "level", "form", "path", "met"]) F_first_fault fun _ _ _ _ _ _ us hl => match us, hl with | [_, _, _, _, _], _ => rfl⟩
  obtain ⟨d_Book_init, F_Book_init⟩ := c.def_ 13 (d := dt_Book_init) rfl
  let G_Book_init : Gm K T_Book.C "__init__" "Book.__init__" s_Book_init ["self", "cells", "bodies"] := ⟨_, d_Book_init, fun_of F_Book_init, He.meth_ok (c.fact 13 (f := .meth "Book" "__init__") rfl), FunD.bindsN (ps := ["self", "cells", "bodies"]) F_Book_init fun _ _ _ _ _ _ us hl => match us, hl with | [_, _, _], _ => rfl⟩
  obtain ⟨d_Book_len, F_Book_len⟩ := c.def_ 14 (d := dt_Book_len) rfl
  let G_Book_len : Gm K T_Book.C "__len__" "Book.__len__" s_Book_len ["self"] := ⟨_, d_Book_len, fun_of F_Book_len, He.meth_ok (c.fact 14 (f := .meth "Book" "__len__") rfl), FunD.bindsN (ps := ["self"]) F_Book_len fun _ _ _ _ _ _ us hl => match us, hl with | [_], _ => rfl⟩
  obtain ⟨d_Book_eq, F_Book_eq⟩ := c.def_ 15 (d := dt_Book_eq) rfl
  let G_Book_eq : Gm K T_Book.C "__eq__" "Book.__eq__" s_Book_eq ["self", "other"] := ⟨_, d_Book_eq, fun_of F_Book_eq, He.meth_ok (c.fact 15 (f := .meth "Book" "__eq__") rfl), FunD.bindsN (ps := ["self", "other"]) F_Book_eq fun _ _ _ _ _ _ us hl => match us, hl with | [_, _], _ => rfl⟩
  obtain ⟨d_Book_cells, F_Book_cells⟩ := c.def_ 16 (d := dt_Book_cells) rfl
  let G_Book_cells : Gm K T_Book.C "cells" "Book.cells" s_Book_cells ["self"] := ⟨_, d_Book_cells, fun_of F_Book_cells, He.meth_ok (c.fact 16 (f := .meth "Book" "cells") rfl), FunD.bindsN (ps := ["self"]) F_Book_cells fun _ _ _ _ _ _ us hl => match us, hl with | [_], _ => rfl⟩
  obtain ⟨d_Book_bodies, F_Book_bodies⟩ := c.def_ 17 (d := dt_Book_bodies) rfl
  let G_Book_bodies : Gm K T_Book.C "bodies" "Book.bodies" s_Book_bodies ["self"] := ⟨_, d_Book_bodies, fun_of F_Book_bodies, He.meth_ok (c.fact 17 (f := .meth "Book" "bodies") rfl), FunD.bindsN (ps := ["self"]) F_Book_bodies fun _ _ _ _ _ _ us hl => match us, hl with | [_], _ => rfl⟩
  obtain ⟨d_L_pool, F_L_pool⟩ := c.def_ 18 (d := dt_L_pool) rfl
  let G_L_pool : Gf K mg "_law_pool" s_L_pool ["_law_script"] := ⟨_, d_L_pool, fun_of F_L_pool, He.glo_ok X G (c.fact 18 (f := .glo "_law_pool") rfl), FunD.bindsN (ps := ["_law_script"]) F_L_pool fun _ _ _ _ _ _ us hl => match us, hl with | [_], _ => rfl⟩
  obtain ⟨d_L_draw, F_L_draw⟩ := c.def_ 19 (d := dt_L_draw) rfl
  let G_L_draw : Gf K mg "_law_draw" s_L_draw ["_law_pool_here", "_law_many"] := ⟨_, d_L_draw, fun_of F_L_draw, He.glo_ok X G (c.fact 19 (f := .glo "_law_draw") rfl), FunD.bindsN (ps := ["_law_pool_here", "_law_many"]) F_L_draw fun _ _ _ _ _ _ us hl => match us, hl with | [_, _], _ => rfl⟩
  obtain ⟨d_L_row, F_L_row⟩ := c.def_ 20 (d := dt_L_row) rfl
  let G_L_row : Gf K mg "_law_row" s_L_row ["_law_pool_here", "_law_cells"] := ⟨_, d_L_row, fun_of F_L_row, He.glo_ok X G (c.fact 20 (f := .glo "_law_row") rfl), FunD.bindsN (ps := ["_law_pool_here", "_law_cells"]) F_L_row fun _ _ _ _ _ _ us hl => match us, hl with | [_, _], _ => rfl⟩
  obtain ⟨d_L_command, F_L_command⟩ := c.def_ 21 (d := dt_L_command) rfl
  let G_L_command : Gf K mg "_law_command" s_L_command ["_law_pool_here", "_law_cells"] := ⟨_, d_L_command, fun_of F_L_command, He.glo_ok X G (c.fact 21 (f := .glo "_law_command") rfl), FunD.bindsN (ps := ["_law_pool_here", "_law_cells"]) F_L_command fun _ _ _ _ _ _ us hl => match us, hl with | [_, _], _ => rfl⟩
  obtain ⟨d_L_some_cells, F_L_some_cells⟩ := c.def_ 22 (d := dt_L_some_cells) rfl
  let G_L_some_cells : Gf K mg "_law_some_cells" s_L_some_cells ["_law_pool_here", "_law_cells"] := ⟨_, d_L_some_cells, fun_of F_L_some_cells, He.glo_ok X G (c.fact 22 (f := .glo "_law_some_cells") rfl), FunD.bindsN (ps := ["_law_pool_here", "_law_cells"]) F_L_some_cells fun _ _ _ _ _ _ us hl => match us, hl with | [_, _], _ => rfl⟩
  obtain ⟨d_L_block, F_L_block⟩ := c.def_ 23 (d := dt_L_block) rfl
  let G_L_block : Gf K mg "_law_block" s_L_block ["_law_pool_here", "_law_world", "_law_tier", "_law_most"] := ⟨_, d_L_block, fun_of F_L_block, He.glo_ok X G (c.fact 23 (f := .glo "_law_block") rfl), FunD.bindsN (ps := ["_law_pool_here", "_law_world", "_law_tier", "_law_most"]) F_L_block fun _ _ _ _ _ _ us hl => match us, hl with | [_, _, _, _], _ => rfl⟩
  obtain ⟨d_L_statement, F_L_statement⟩ := c.def_ 24 (d := dt_L_statement) rfl
  let G_L_statement : Gf K mg "_law_statement" s_L_statement ["_law_pool_here", "_law_world", "_law_tier"] := ⟨_, d_L_statement, fun_of F_L_statement, He.glo_ok X G (c.fact 24 (f := .glo "_law_statement") rfl), FunD.bindsN (ps := ["_law_pool_here", "_law_world", "_law_tier"]) F_L_statement fun _ _ _ _ _ _ us hl => match us, hl with | [_, _, _], _ => rfl⟩
  obtain ⟨d_L_body, F_L_body⟩ := c.def_ 25 (d := dt_L_body) rfl
  let G_L_body : Gf K mg "_law_body" s_L_body ["_law_pool_here", "_law_cells", "_law_many", "_law_room", "_law_tier"] := ⟨_, d_L_body, fun_of F_L_body, He.glo_ok X G (c.fact 25 (f := .glo "_law_body") rfl), FunD.bindsN (ps := ["_law_pool_here", "_law_cells", "_law_many", "_law_room", "_law_tier"]) F_L_body fun _ _ _ _ _ _ us hl => match us, hl with | [_, _, _, _, _], _ => rfl⟩
  obtain ⟨d_L_bodies, F_L_bodies⟩ := c.def_ 26 (d := dt_L_bodies) rfl
  let G_L_bodies : Gf K mg "_law_bodies" s_L_bodies ["_law_pool_here", "_law_cells", "_law_many", "_law_room"] := ⟨_, d_L_bodies, fun_of F_L_bodies, He.glo_ok X G (c.fact 26 (f := .glo "_law_bodies") rfl), FunD.bindsN (ps := ["_law_pool_here", "_law_cells", "_law_many", "_law_room"]) F_L_bodies fun _ _ _ _ _ _ us hl => match us, hl with | [_, _, _, _], _ => rfl⟩
  obtain ⟨d_L_copied, F_L_copied⟩ := c.def_ 27 (d := dt_L_copied) rfl
  let G_L_copied : Gf K mg "_law_copied" s_L_copied ["_law_value"] := ⟨_, d_L_copied, fun_of F_L_copied, He.glo_ok X G (c.fact 27 (f := .glo "_law_copied") rfl), FunD.bindsN (ps := ["_law_value"]) F_L_copied fun _ _ _ _ _ _ us hl => match us, hl with | [_], _ => rfl⟩
  obtain ⟨d_L_same, F_L_same⟩ := c.def_ 28 (d := dt_L_same) rfl
  let G_L_same : Gf K mg "_law_same" s_L_same ["_law_actual", "_law_due"] := ⟨_, d_L_same, fun_of F_L_same, He.glo_ok X G (c.fact 28 (f := .glo "_law_same") rfl), FunD.bindsN (ps := ["_law_actual", "_law_due"]) F_L_same fun _ _ _ _ _ _ us hl => match us, hl with | [_, _], _ => rfl⟩
  obtain ⟨d_L_longer, F_L_longer⟩ := c.def_ 29 (d := dt_L_longer) rfl
  let G_L_longer : Gf K mg "_law_longer" s_L_longer ["_law_value"] := ⟨_, d_L_longer, fun_of F_L_longer, He.glo_ok X G (c.fact 29 (f := .glo "_law_longer") rfl), FunD.bindsN (ps := ["_law_value"]) F_L_longer fun _ _ _ _ _ _ us hl => match us, hl with | [_], _ => rfl⟩
  obtain ⟨d_L_spoiled, F_L_spoiled⟩ := c.def_ 30 (d := dt_L_spoiled) rfl
  let G_L_spoiled : Gf K mg "_law_spoiled" s_L_spoiled ["_law_value"] := ⟨_, d_L_spoiled, fun_of F_L_spoiled, He.glo_ok X G (c.fact 30 (f := .glo "_law_spoiled") rfl), FunD.bindsN (ps := ["_law_value"]) F_L_spoiled fun _ _ _ _ _ _ us hl => match us, hl with | [_], _ => rfl⟩
  obtain ⟨d_L_turned, F_L_turned⟩ := c.def_ 31 (d := dt_L_turned) rfl
  let G_L_turned : Gf K mg "_law_turned" s_L_turned ["_law_value", "_law_left"] := ⟨_, d_L_turned, fun_of F_L_turned, He.glo_ok X G (c.fact 31 (f := .glo "_law_turned") rfl), FunD.bindsN (ps := ["_law_value", "_law_left"]) F_L_turned fun _ _ _ _ _ _ us hl => match us, hl with | [_, _], _ => rfl⟩
  obtain ⟨d_L_tells, F_L_tells⟩ := c.def_ 32 (d := dt_L_tells) rfl
  let G_L_tells : Gf K mg "_law_tells" s_L_tells ["_law_book", "_law_cells", "_law_bodies_here"] := ⟨_, d_L_tells, fun_of F_L_tells, He.glo_ok X G (c.fact 32 (f := .glo "_law_tells") rfl), FunD.bindsN (ps := ["_law_book", "_law_cells", "_law_bodies_here"]) F_L_tells fun _ _ _ _ _ _ us hl => match us, hl with | [_, _, _], _ => rfl⟩
  obtain ⟨d_L_shared_right, F_L_shared_right⟩ := c.def_ 33 (d := dt_L_shared_right) rfl
  let G_L_shared_right : Gf K mg "_law_shared_right" s_L_shared_right ["_law_pool_here", "_law_cells"] := ⟨_, d_L_shared_right, fun_of F_L_shared_right, He.glo_ok X G (c.fact 33 (f := .glo "_law_shared_right") rfl), FunD.bindsN (ps := ["_law_pool_here", "_law_cells"]) F_L_shared_right fun _ _ _ _ _ _ us hl => match us, hl with | [_, _], _ => rfl⟩
  obtain ⟨d_law, F_law⟩ := c.def_ 34 (d := dt_law) rfl
  let G_law : Gf K mg "law" s_law ["_law_script"] := ⟨_, d_law, fun_of F_law, He.glo_ok X G (c.fact 34 (f := .glo "law") rfl), FunD.bindsN (ps := ["_law_script"]) F_law fun _ _ _ _ _ _ us hl => match us, hl with | [_], _ => rfl⟩
  have e := hfa.symm.trans (He.glo_ok X G (c.fact 34 (f := .glo "law") rfl))
  cases e
  have M : Blt mg := ⟨He.free_ok X G (c.fact 35 (f := .free "range") rfl), He.free_ok X G (c.fact 36 (f := .free "enumerate") rfl), He.free_ok X G (c.fact 37 (f := .free "zip") rfl), He.free_ok X G (c.fact 38 (f := .free "sum") rfl), He.free_ok X G (c.fact 39 (f := .free "len") rfl), He.free_ok X G (c.fact 40 (f := .free "int") rfl), He.free_ok X G (c.fact 41 (f := .free "list") rfl), He.free_ok X G (c.fact 42 (f := .free "isinstance") rfl), He.free_ok X G (c.fact 43 (f := .free "bool") rfl), He.free_ok X G (c.fact 44 (f := .free "str") rfl), He.free_ok X G (c.fact 45 (f := .free "tuple") rfl), He.free_ok X G (c.fact 46 (f := .free "abs") rfl), He.free_ok X G (c.fact 47 (f := .free "all") rfl), He.free_ok X G (c.fact 48 (f := .free "any") rfl), He.free_ok X G (c.fact 49 (f := .free "sorted") rfl), He.free_ok X G (c.fact 50 (f := .free "reversed") rfl), He.free_ok X G (c.fact 51 (f := .free "min") rfl), He.free_ok X G (c.fact 52 (f := .free "max") rfl), He.free_ok X G (c.fact 53 (f := .free "ValueError") rfl)⟩
  exact ⟨d_law, fun s v => bd_law F_law s [v] rfl, fun base _ _ => (ok_law M hSeer hTree G_is_integer G_is_vector G_is_bit G_is_index G_is_row G_are_cells G_blocks_of G_copied_statement G_copied_block T_SIZES G_is_word G_is_command hDEEPEST G_has_form hMOST_IN_LIST hMOST_IN_PROCEDURE G_first_fault hMOST_CELLS hMOST_PROCEDURES T_Book G_Book_init G_Book_len G_Book_cells G_Book_bodies G_Book_eq G_L_pool G_L_draw G_L_row G_L_command G_L_some_cells G_L_block G_L_statement G_L_body G_L_bodies G_L_copied G_L_same G_L_longer G_L_spoiled G_L_turned G_L_tells G_L_shared_right G_law)⟩
end Kx
open PySem PySem.W PySem.Calls PyProof.Rows
theorem PySem.Challenge.cw_sharedboard_k02_books_told_holds : PySem.Challenge.rw_sharedboard_k02_books_told.Holds := by
  w_on; o_law
  refine HandSHeadRun.head_any (r := OpenLaw.row PySem.Challenge.rw_sharedboard_k02_books_told) (q := view (OpenLaw.row PySem.Challenge.rw_sharedboard_k02_books_told).prog [48]) (H := Kx.hkB) (ob := Kx.obB) (M := 9000) (loose := Kx.looseT) (d := HandSHeadRun.topDef (OpenLaw.row PySem.Challenge.rw_sharedboard_k02_books_told).prog 48) (kwd := []) Kx.obB_eq
    (by kernel_rfl) (fun s => by kernel_rfl) Kx.runT (by kernel_rfl) (by kernel_rfl) (by kernel_rfl) (by rfl) (by first | assumption | decide +kernel) (by decide +kernel) ⟨rfl, rfl, rfl, rfl, rfl, by decide +kernel⟩ ?hw ?hc
  case hw => w_witness2
  case hc =>
    refine L2.walk_ofE (l := PySem.Challenge.rw_sharedboard_k02_books_told) (n := 63) (k := 28) (x := "_law_script") (CX := L2.CX0) rfl (by decide) (by kernel_rfl) ⟨rfl, by decide, by decide⟩ ?F (fun _ _ _ _ z => z)
    intro w mg fa h Y G hmg0
    obtain ⟨K, KX, c⟩ := Y
    have hmg : mg ("law" : PySem.Str) = some (.ref fa) := by
      have e : (HandSHeadRun.topDef (OpenLaw.row PySem.Challenge.rw_sharedboard_k02_books_told).prog 48).name = ("law" : PySem.Str) := by kernel_rfl
      rw [← e]
      exact hmg0
    obtain ⟨fd, hb, hF⟩ := Kx.factsT (P := (PySem.Challenge.rw_sharedboard_k02_books_told).prog) (w := w) (by rfl) KX G hmg c
    exact ⟨K, fd, DL.spS K DL.specLaw, KX, hb, fun H a ns hl _ hS => DL.law_sp H a ns hl hS, hF⟩

