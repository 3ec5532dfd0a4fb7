import PyProof.Rows.All
import Wide.All
import OpenK.AllK
import Wide.FinOn
import HandS.ForMost
import HandS.Wide
import HandS.More
import HandS.Exc
import HandS.TryOnly
import HandS.TryMany
import HandS.ExcOwn
import HandS.WordsExc
import HandS.Defaults
import HandS.MakeKwOnly
import HandS.DictComp
import HandS.ListItems
import HandS.FStr
import HandS.Property
import HandS.OwnEq
import HandS.IsInst
import HandS.Codes
import HandS.Bytes
import HandS.HeadHook1
import HandS.HeadHook2
import KE.KStrBytes
import PyProof.InstNe
import KE.KExcLine
import KE.KExcSuper
import HandS.ExcInit
import PyProof.ExcBaseAll.LookupError
import PyProof.Rows.SortShellAny
import HandS.SortOrd
import HandS.SetKeys
import KE.DataMinMax
import HandS.ExcField
import HandS.NoneIn
import PyProof.StrOps2
import PyProof.ReprRoads
import HandS.Style
import HandS.Finally
import PyProof.StrLawsRepr
import HandS.HeadHook3
import HandS.HeadHook4
import KE.KStateDown
import Lean
import HandS.Head0
import HandS.Head1
import HandS.Head2
import HandS.HeadEnd
import PySem.Challenge.RW_forkhaul_k08_whole_files_and_trees
set_option Elab.async false
set_option linter.all false
set_option maxRecDepth 100000
set_option maxHeartbeats 0
/-! ### the head: what the run of the top leaves -/
namespace FK
open PySem PySem.Spec PyProof.Rows L2
def top (i : Nat) : Stmt := PySem.Challenge.pw_forkhaul_k08_whole_files_and_trees.main.body.getD i (.Pass ⟨0, 0, 0, 0⟩)
abbrev sHasOnly : Stmt := top 21
abbrev sIsId : Stmt := top 22
abbrev sIsSegment : Stmt := top 23
abbrev sIsPath : Stmt := top 24
abbrev sIsText : Stmt := top 26
abbrev sAbove : Stmt := top 28
def cSmall : Str := "abcdefghijklmnopqrstuvwxyz"
def cDigits : Str := "0123456789"
def cHex : Str := "0123456789abcdef"
def mAt (K : PySem.W.Frag) (C : Addr) (m : Str) : Addr := match PySem.W.findIn K (.ref C) m with | some (some (.ref f)) => f | _ => 0
def gAt (K : PySem.W.Frag) (C : Addr) (m : Str) : Addr := match PySem.W.recIn K (mAt K C m) "property" with | some (.ref g :: _) => g | _ => 0
abbrev ca (K : PySem.W.Frag) (x : Str) : Addr := He.ga K x
abbrev sIsEntry : Stmt := top 34
abbrev sTInit : Stmt := L2.inClass (top 35) 0
abbrev sTEnt : Stmt := L2.inClass (top 35) 1
abbrev sTEq : Stmt := L2.inClass (top 35) 2
abbrev sBInit : Stmt := L2.inClass (top 33) 0
abbrev sBText : Stmt := L2.inClass (top 33) 1
abbrev sBEq : Stmt := L2.inClass (top 33) 2
abbrev sIsObj : Stmt := top 39
abbrev sEncT : Stmt := top 44
abbrev sEnc : Stmt := top 46
abbrev sSum : Stmt := top 47
abbrev sIdOf : Stmt := top 48
abbrev sSInit : Stmt := L2.inClass (top 50) 0
abbrev sSPut : Stmt := L2.inClass (top 50) 1
abbrev sSHas : Stmt := L2.inClass (top 50) 2
abbrev sSGet : Stmt := L2.inClass (top 50) 3
abbrev sSIds : Stmt := L2.inClass (top 50) 6
abbrev sSCop : Stmt := L2.inClass (top 50) 7
abbrev sSPutF : Stmt := L2.inClass (top 50) 14
abbrev sSFiles : Stmt := L2.inClass (top 50) 15
abbrev sSChk : Stmt := L2.inClass (top 50) 16
abbrev sIsVal : Stmt := top 51
abbrev sChk : Stmt := top 52
abbrev sClash : Stmt := top 53
abbrev sPB : Stmt := top 54
abbrev sCellAt : Stmt := top 56
abbrev sWell : Stmt := top 57
abbrev sDraw : Stmt := top 58
abbrev sPick : Stmt := top 59
abbrev sSigns : Stmt := top 60
abbrev sLid : Stmt := top 65
abbrev sSmall : Stmt := top 66
abbrev sFilesL : Stmt := top 67
abbrev sTwice : Stmt := top 68
abbrev sTrees : Stmt := top 69
abbrev sLClash : Stmt := top 70
abbrev sTRight : Stmt := top 71
abbrev sLPut : Stmt := top 72
abbrev sLRead : Stmt := top 73
abbrev sRef : Stmt := top 74
abbrev sHand : Stmt := top 75
abbrev sLaw : Stmt := top 76
end FK
namespace PySem
namespace FKX
open PySem.W PySem.Calls PyProof.Rows PySem.HandSPX
abbrev keTail : List Value := [.type "KeyError", .type "LookupError", .type "Exception", .type "BaseException", .type "object"]
abbrev sFork : Stmt := L2.inClass (FK.top 2) 0
abbrev sBadObj : Stmt := L2.inClass (FK.top 5) 0
abbrev sNoObj : Stmt := L2.inClass (FK.top 7) 0
end FKX
end PySem
namespace FK
open PySem PySem.Spec PyProof.Rows L2
open PySem.W (Frag)
open PySem.FKX
structure DefA where
  at_ : Frag → Addr
  name : Str
  qual : Str
  st : Stmt
  clo : List Str
abbrev FnA : Type := Option (Str × Str × Arguments × FuncBody × Scope × Addr × List Str × Addr)
def fnA (K : Frag) (f : Addr) : FnA := match K.lookup f with
  | some ⟨_, _, .func fd, _⟩ => some (fd.name, fd.qualname, fd.params, fd.body, fd.scope, fd.globals, fd.closure.map (·.1), fd.builtins)
  | _ => none
def DefA.val (d : DefA) : FnA := some (d.name, d.qual, defArgs d.st, .stmts (defBody d.st), defScope d.st, mainGlobals, d.clo, builtinsNs)
def plainB (K : Frag) (f : Addr) (q : Str) : Bool := PySem.W.keepIn K (.ref f) && (match K.lookup f with
  | some ⟨_, _, .func fd, _⟩ => PySem.W.codeIn K fd.code q && He.dflB K fd.defaults []
  | _ => false)
def strAt : Option Value → Str → Bool
  | some (.str z _), y => decide (z = y)
  | _, _ => false
def supB (K : Frag) (file : Str) (f D : Addr) (q : Str) : Bool := match K.lookup f with
  | some ⟨_, _, .func fd, _⟩ => (match fd.code, fd.closure with
    | .ref cda, [(_, cc)] => PySem.W.codeIn K (.ref cda) q && ((match K.lookup cda with
      | some ⟨_, _, .fields vs, _⟩ => strAt vs[2]? file
      | _ => false) && ((match K.lookup cc with
      | some ⟨_, _, .cell (some (.ref E)), _⟩ => decide (E = D)
      | _ => false) && ((PySem.W.clsIn K D).isSome && decide (PySem.W.typeIn K (.ref f) = some (.type "function")))))
    | _, _ => false)
  | _ => false
def dfl0B (K : Frag) (f : Addr) : Bool := match K.lookup f with
  | some ⟨_, _, .func fd, _⟩ => (match fd.defaults with
    | .none => true
    | _ => false)
  | _ => false
def dfl1B (K : Frag) (f : Addr) : Bool := match K.lookup f with
  | some ⟨_, _, .func fd, _⟩ => (match fd.defaults with
    | .ref T => (match K.lookup T with
      | some ⟨_, _, .seq its _, _⟩ => decide (its.size = 1)
      | _ => false)
    | _ => false)
  | _ => false
def excB (K : Frag) (C : Addr) (newId : String) (ok : List Value → Bool) : Bool := match K.lookup C with
  | some ⟨.type "type", _, .cls cd, sl⟩ => (match cd.mro, sl.toList with
    | .ref C' :: bm, [_, _, _, _, some (.builtin n), _] => decide (C' = C) && (decide (n = newId) && (!cd.hasDel && (cd.hasDict && ok bm)))
    | _, _ => false)
  | _ => false
open PySem.HandSPX
def fileS : Str := "/claim/cut.py"
def recB (K : Frag) (p : Addr) : Bool := match PySem.W.recIn K p "property" with
  | some (.ref _ :: _) => true
  | _ => false
theorem rec_of {K : Frag} {C : Addr} {m : Str} (h : recB K (mAt K C m) = true) : ∃ rest, PySem.W.recIn K (mAt K C m) "property" = some (.ref (gAt K C m) :: rest) := by
  unfold recB at h
  unfold gAt
  cases q : PySem.W.recIn K (mAt K C m) "property" with
  | none => rw [q] at h; cases h
  | some l =>
    rw [q] at h
    cases l with
    | nil => cases h
    | cons v r =>
      cases v with
      | ref g => exact ⟨r, rfl⟩
      | _ => cases h
def okVE (bm : List Value) : Bool := refsVE bm && (bm.contains (.type "ValueError") && (!bm.contains (.type "AttributeError") && !bm.contains (.type "NameError")))
def okKE (bm : List Value) : Bool := (bm == keTail) && (bm.contains (.type "LookupError") && (!bm.contains (.type "AttributeError") && !bm.contains (.type "NameError")))

def dG_has_only : He.DefD := ⟨("has_only", none), "has_only", "has_only", defArgs sHasOnly, defBody sHasOnly, defScope sHasOnly, [], []⟩
def dG_is_id : He.DefD := ⟨("is_id", none), "is_id", "is_id", defArgs sIsId, defBody sIsId, defScope sIsId, [], []⟩
def dG_is_segment : He.DefD := ⟨("is_segment", none), "is_segment", "is_segment", defArgs sIsSegment, defBody sIsSegment, defScope sIsSegment, [], []⟩
def dG_is_path : He.DefD := ⟨("is_path", none), "is_path", "is_path", defArgs sIsPath, defBody sIsPath, defScope sIsPath, [], []⟩
def dG_is_text : He.DefD := ⟨("is_text", none), "is_text", "is_text", defArgs sIsText, defBody sIsText, defScope sIsText, [.int 2000], []⟩
def dG_above : He.DefD := ⟨("above", none), "above", "above", defArgs sAbove, defBody sAbove, defScope sAbove, [], []⟩
def dG_is_entry : He.DefD := ⟨("is_entry", none), "is_entry", "is_entry", defArgs sIsEntry, defBody sIsEntry, defScope sIsEntry, [], []⟩
def dG_is_object : He.DefD := ⟨("is_object", none), "is_object", "is_object", defArgs sIsObj, defBody sIsObj, defScope sIsObj, [], []⟩
def dG_encode_tree : He.DefD := ⟨("encode_tree", none), "encode_tree", "encode_tree", defArgs sEncT, defBody sEncT, defScope sEncT, [], []⟩
def dG_encode : He.DefD := ⟨("encode", none), "encode", "encode", defArgs sEnc, defBody sEnc, defScope sEnc, [], []⟩
def dG_sum_of : He.DefD := ⟨("sum_of", none), "sum_of", "sum_of", defArgs sSum, defBody sSum, defScope sSum, [], [("short", .bl false)]⟩
def dG_id_of : He.DefD := ⟨("id_of", none), "id_of", "id_of", defArgs sIdOf, defBody sIdOf, defScope sIdOf, [], [("short", .bl false)]⟩
def dG_is_value : He.DefD := ⟨("is_value", none), "is_value", "is_value", defArgs sIsVal, defBody sIsVal, defScope sIsVal, [], []⟩
def dG_check_files : He.DefD := ⟨("check_files", none), "check_files", "check_files", defArgs sChk, defBody sChk, defScope sChk, [], []⟩
def dG_clashes : He.DefD := ⟨("clashes", none), "clashes", "clashes", defArgs sClash, defBody sClash, defScope sClash, [], []⟩
def dG_put_below : He.DefD := ⟨("put_below", none), "put_below", "put_below", defArgs sPB, defBody sPB, defScope sPB, [], []⟩
def dG_law_cell_at : He.DefD := ⟨("_law_cell_at", none), "_law_cell_at", "_law_cell_at", defArgs sCellAt, defBody sCellAt, defScope sCellAt, [], []⟩
def dG_law_well : He.DefD := ⟨("_law_well", none), "_law_well", "_law_well", defArgs sWell, defBody sWell, defScope sWell, [], []⟩
def dG_law_draw : He.DefD := ⟨("_law_draw", none), "_law_draw", "_law_draw", defArgs sDraw, defBody sDraw, defScope sDraw, [], []⟩
def dG_law_pick : He.DefD := ⟨("_law_pick", none), "_law_pick", "_law_pick", defArgs sPick, defBody sPick, defScope sPick, [], []⟩
def dG_law_signs : He.DefD := ⟨("_law_signs", none), "_law_signs", "_law_signs", defArgs sSigns, defBody sSigns, defScope sSigns, [], []⟩
def dG_law_id : He.DefD := ⟨("_law_id", none), "_law_id", "_law_id", defArgs sLid, defBody sLid, defScope sLid, [], []⟩
def dG_law_small_path : He.DefD := ⟨("_law_small_path", none), "_law_small_path", "_law_small_path", defArgs sSmall, defBody sSmall, defScope sSmall, [], []⟩
def dG_law_files : He.DefD := ⟨("_law_files", none), "_law_files", "_law_files", defArgs sFilesL, defBody sFilesL, defScope sFilesL, [], []⟩
def dG_law_twice : He.DefD := ⟨("_law_twice", none), "_law_twice", "_law_twice", defArgs sTwice, defBody sTwice, defScope sTwice, [], []⟩
def dG_law_trees : He.DefD := ⟨("_law_trees", none), "_law_trees", "_law_trees", defArgs sTrees, defBody sTrees, defScope sTrees, [], []⟩
def dG_law_clash : He.DefD := ⟨("_law_clash", none), "_law_clash", "_law_clash", defArgs sLClash, defBody sLClash, defScope sLClash, [], []⟩
def dG_law_tree_right : He.DefD := ⟨("_law_tree_right", none), "_law_tree_right", "_law_tree_right", defArgs sTRight, defBody sTRight, defScope sTRight, [], []⟩
def dG_law_put : He.DefD := ⟨("_law_put", none), "_law_put", "_law_put", defArgs sLPut, defBody sLPut, defScope sLPut, [], []⟩
def dG_law_read : He.DefD := ⟨("_law_read", none), "_law_read", "_law_read", defArgs sLRead, defBody sLRead, defScope sLRead, [], []⟩
def dG_law_refused_right : He.DefD := ⟨("_law_refused_right", none), "_law_refused_right", "_law_refused_right", defArgs sRef, defBody sRef, defScope sRef, [], []⟩
def dG_law_hand_right : He.DefD := ⟨("_law_hand_right", none), "_law_hand_right", "_law_hand_right", defArgs sHand, defBody sHand, defScope sHand, [], []⟩
def dG_law : He.DefD := ⟨("law", none), "law", "law", defArgs sLaw, defBody sLaw, defScope sLaw, [], []⟩
def dM_Tree_init : He.DefD := ⟨("Tree", some "__init__"), "__init__", "Tree.__init__", defArgs sTInit, defBody sTInit, defScope sTInit, [], []⟩
def dM_Tree_eq : He.DefD := ⟨("Tree", some "__eq__"), "__eq__", "Tree.__eq__", defArgs sTEq, defBody sTEq, defScope sTEq, [], []⟩
def dM_Blob_init : He.DefD := ⟨("Blob", some "__init__"), "__init__", "Blob.__init__", defArgs sBInit, defBody sBInit, defScope sBInit, [], []⟩
def dM_Blob_eq : He.DefD := ⟨("Blob", some "__eq__"), "__eq__", "Blob.__eq__", defArgs sBEq, defBody sBEq, defScope sBEq, [], []⟩
def dM_Store_init : He.DefD := ⟨("Store", some "__init__"), "__init__", "Store.__init__", defArgs sSInit, defBody sSInit, defScope sSInit, [], [("short", .bl false)]⟩
def dM_Store_put : He.DefD := ⟨("Store", some "put"), "put", "Store.put", defArgs sSPut, defBody sSPut, defScope sSPut, [], []⟩
def dM_Store_ids : He.DefD := ⟨("Store", some "ids"), "ids", "Store.ids", defArgs sSIds, defBody sSIds, defScope sSIds, [], []⟩
def dM_Store_copied : He.DefD := ⟨("Store", some "copied"), "copied", "Store.copied", defArgs sSCop, defBody sSCop, defScope sSCop, [], []⟩
def dM_Store_put_files : He.DefD := ⟨("Store", some "put_files"), "put_files", "Store.put_files", defArgs sSPutF, defBody sSPutF, defScope sSPutF, [], []⟩
def dM_Store_files_of : He.DefD := ⟨("Store", some "files_of"), "files_of", "Store.files_of", defArgs sSFiles, defBody sSFiles, defScope sSFiles, [], []⟩
def dM_Store_check_trees : He.DefD := ⟨("Store", some "check_trees"), "check_trees", "Store.check_trees", defArgs sSChk, defBody sSChk, defScope sSChk, [], []⟩
def dM_Store_contains : He.DefD := ⟨("Store", some "__contains__"), "__contains__", "Store.__contains__", defArgs sSHas, defBody sSHas, defScope sSHas, [], []⟩
def dM_Store_getitem : He.DefD := ⟨("Store", some "__getitem__"), "__getitem__", "Store.__getitem__", defArgs sSGet, defBody sSGet, defScope sSGet, [], []⟩
def fnL0 : List He.DefD := [dG_has_only, dG_is_id, dG_is_segment, dG_is_path, dG_is_text, dG_above, dG_is_entry, dG_is_object, dG_encode_tree, dG_encode, dG_sum_of, dG_id_of, dG_is_value, dG_check_files, dG_clashes, dG_put_below, dG_law_cell_at, dG_law_well, dG_law_draw, dG_law_pick, dG_law_signs, dG_law_id, dG_law_small_path, dG_law_files, dG_law_twice, dG_law_trees, dG_law_clash, dG_law_tree_right, dG_law_put, dG_law_read]
def fnL1 : List He.DefD := [dG_law_refused_right, dG_law_hand_right, dG_law, dM_Tree_init, dM_Tree_eq, dM_Blob_init, dM_Blob_eq, dM_Store_init, dM_Store_put, dM_Store_ids, dM_Store_copied, dM_Store_put_files, dM_Store_files_of, dM_Store_check_trees, dM_Store_contains, dM_Store_getitem]
def fnL : List He.DefD := fnL0 ++ fnL1
def faL0 : List He.Fa := [.glo "has_only", .glo "is_id", .glo "is_segment", .glo "is_path", .glo "is_text", .glo "above", .glo "is_entry", .glo "is_object", .glo "encode_tree", .glo "encode", .glo "sum_of", .glo "id_of", .glo "is_value", .glo "check_files", .glo "clashes", .glo "put_below", .glo "_law_cell_at", .glo "_law_well", .glo "_law_draw", .glo "_law_pick", .glo "_law_signs", .glo "_law_id", .glo "_law_small_path", .glo "_law_files", .glo "_law_twice", .glo "_law_trees", .glo "_law_clash", .glo "_law_tree_right", .glo "_law_put", .glo "_law_read"]
def faL1 : List He.Fa := [.glo "_law_refused_right", .glo "_law_hand_right", .glo "law", .glo "Blob", .glo "Tree", .glo "Commit", .glo "Tag", .glo "Store", .glo "BadName", .glo "BadPath", .glo "BadObject", .glo "NoObject", .glo "Clash", .glo "KINDS", .free "isinstance", .free "len", .free "all", .free "str", .free "dict", .free "tuple", .free "sorted", .free "int", .free "bytes", .free "bool", .free "min", .free "range", .free "list", .free "repr", .free "super", .int "ID_LENGTH" 16]
def faL2 : List He.Fa := [.int "MOST_SEGMENT" 12, .int "MOST_SEGMENTS" 6, .int "MOST_ENTRIES" 30, .int "LONG" 2305843009213693951, .int "SHORT" 251, .int "FACTOR" 1000003, .str "HEX" cHex, .str "SMALL" cSmall, .str "DIGITS" cDigits, .cls "Blob", .cls "Tree", .cls "Store", .noat "Blob" "held", .noat "Tree" "held", .noat "Store" "short", .noat "Store" "kept", .mkr "Blob", .mkr "Tree", .mkr "Store", .meth "Store" "put", .meth "Store" "ids", .meth "Store" "copied", .meth "Store" "put_files", .meth "Store" "files_of", .meth "Store" "check_trees"]
def faL : List He.Fa := faL0 ++ faL1 ++ faL2
def x0 (K : Frag) : Bool := He.eqO (PySem.W.findIn K (.ref (ca K "Blob")) "__eq__") (some (some (.ref (mAt K (ca K "Blob") "__eq__"))))
def x1 (K : Frag) : Bool := PySem.W.isFn K (.ref (mAt K (ca K "Blob") "__eq__"))
def x2 (K : Frag) : Bool := He.eqO (PySem.W.findIn K (.ref (ca K "Blob")) "__ne__") (some (some (.builtin "object.__ne__")))
def x3 (K : Frag) : Bool := decide (PySem.W.mroIn K (ca K "Blob") (.type "object") = some true)
def x4 (K : Frag) : Bool := PySem.W.notFirst K (ca K "Blob") (.ref (ca K "Blob"))
def x5 (K : Frag) : Bool := decide (PySem.W.kitOne K (.ref (ca K "Blob")) (.ref (ca K "Blob")) = some true)
def x6 (K : Frag) : Bool := PySem.W.notFirst K (ca K "Blob") (.ref (ca K "Tree"))
def x7 (K : Frag) : Bool := decide (PySem.W.kitOne K (.ref (ca K "Blob")) (.ref (ca K "Tree")) = some false)
def x8 (K : Frag) : Bool := He.eqO (PySem.W.findIn K (.ref (ca K "Blob")) "__class__") (some (some (.builtin "object.__class__")))
def x9 (K : Frag) : Bool := He.eqO (PySem.W.findIn K (.ref (ca K "Tree")) "__eq__") (some (some (.ref (mAt K (ca K "Tree") "__eq__"))))
def x10 (K : Frag) : Bool := PySem.W.isFn K (.ref (mAt K (ca K "Tree") "__eq__"))
def x11 (K : Frag) : Bool := He.eqO (PySem.W.findIn K (.ref (ca K "Tree")) "__ne__") (some (some (.builtin "object.__ne__")))
def x12 (K : Frag) : Bool := decide (PySem.W.mroIn K (ca K "Tree") (.type "object") = some true)
def x13 (K : Frag) : Bool := PySem.W.notFirst K (ca K "Tree") (.ref (ca K "Blob"))
def x14 (K : Frag) : Bool := decide (PySem.W.kitOne K (.ref (ca K "Tree")) (.ref (ca K "Blob")) = some false)
def x15 (K : Frag) : Bool := PySem.W.notFirst K (ca K "Tree") (.ref (ca K "Tree"))
def x16 (K : Frag) : Bool := decide (PySem.W.kitOne K (.ref (ca K "Tree")) (.ref (ca K "Tree")) = some true)
def x17 (K : Frag) : Bool := He.eqO (PySem.W.findIn K (.ref (ca K "Tree")) "__class__") (some (some (.builtin "object.__class__")))
def x18 (K : Frag) : Bool := decide (PySem.W.kitOne K (.type "NoneType") (.ref (ca K "Tree")) = some false)
def x19 (K : Frag) : Bool := He.eqO (PySem.W.specialIn K (.builtin "object.__class__") "__get__") (some (some (.builtin "getset_descriptor.__get__")))
def x20 (K : Frag) : Bool := decide (PySem.W.takesIn K (.builtin "object.__class__") = some true)
def x21 (K : Frag) : Bool := He.eqO (PySem.W.findIn K (.ref (ca K "Blob")) "text") (some (some (.ref (mAt K (ca K "Blob") "text"))))
def x22 (K : Frag) : Bool := He.eqO (PySem.W.specialIn K (.ref (mAt K (ca K "Blob") "text")) "__get__") (some (some (.builtin "property.__get__")))
def x23 (K : Frag) : Bool := decide (PySem.W.takesIn K (.ref (mAt K (ca K "Blob") "text")) = some true)
def x24 (K : Frag) : Bool := recB K (mAt K (ca K "Blob") "text")
def x25 (K : Frag) : Bool := plainB K (gAt K (ca K "Blob") "text") "Blob.text"
def x26 (K : Frag) : Bool := He.eqO (PySem.W.findIn K (.ref (ca K "Tree")) "entries") (some (some (.ref (mAt K (ca K "Tree") "entries"))))
def x27 (K : Frag) : Bool := He.eqO (PySem.W.specialIn K (.ref (mAt K (ca K "Tree") "entries")) "__get__") (some (some (.builtin "property.__get__")))
def x28 (K : Frag) : Bool := decide (PySem.W.takesIn K (.ref (mAt K (ca K "Tree") "entries")) = some true)
def x29 (K : Frag) : Bool := recB K (mAt K (ca K "Tree") "entries")
def x30 (K : Frag) : Bool := plainB K (gAt K (ca K "Tree") "entries") "Tree.entries"
def x31 (K : Frag) : Bool := He.eqO (PySem.W.findIn K (.ref (ca K "Store")) "__contains__") (some (some (.ref (mAt K (ca K "Store") "__contains__"))))
def x32 (K : Frag) : Bool := PySem.W.isFn K (.ref (mAt K (ca K "Store") "__contains__"))
def x33 (K : Frag) : Bool := He.eqO (PySem.W.findIn K (.ref (ca K "Store")) "__getitem__") (some (some (.ref (mAt K (ca K "Store") "__getitem__"))))
def x34 (K : Frag) : Bool := PySem.W.isFn K (.ref (mAt K (ca K "Store") "__getitem__"))
def x35 (K : Frag) : Bool := PySem.W.fnIn K (mAt K (ca K "Store") "__getitem__")
def x36 (K : Frag) : Bool := decide (PySem.W.exmOne K (.ref (ca K "BadPath")) (.ref (ca K "BadPath")) = some true)
def x37 (K : Frag) : Bool := decide (PySem.W.exmOne K (.ref (ca K "BadName")) (.ref (ca K "BadPath")) = some false)
def x38 (K : Frag) : Bool := decide (PySem.W.exmOne K (.ref (ca K "BadName")) (.ref (ca K "BadName")) = some true)
def x39 (K : Frag) : Bool := decide (PySem.W.exmOne K (.ref (ca K "NoObject")) (.ref (ca K "NoObject")) = some true)
def x40 (K : Frag) : Bool := decide (PySem.W.exmOne K (.ref (ca K "BadObject")) (.ref (ca K "NoObject")) = some false)
def x41 (K : Frag) : Bool := decide (PySem.W.exmOne K (.ref (ca K "BadObject")) (.ref (ca K "BadObject")) = some true)
def x42 (K : Frag) : Bool := xfB K (ca K "NoObject")
def x43 (K : Frag) : Bool := xfB K (ca K "BadObject")
def x44 (K : Frag) : Bool := He.eqO (PySem.W.findIn K (.ref (ca K "NoObject")) "name") (some none)
def x45 (K : Frag) : Bool := He.eqO (PySem.W.findIn K (.ref (ca K "BadObject")) "at") (some none)
def x46 (K : Frag) : Bool := supB K fileS (mAt K (ca K "ForkError") "__init__") (ca K "ForkError") "ForkError.__init__"
def x47 (K : Frag) : Bool := supB K fileS (mAt K (ca K "BadObject") "__init__") (ca K "BadObject") "BadObject.__init__"
def x48 (K : Frag) : Bool := supB K fileS (mAt K (ca K "NoObject") "__init__") (ca K "NoObject") "NoObject.__init__"
def x49 (K : Frag) : Bool := dfl1B K (mAt K (ca K "ForkError") "__init__")
def x50 (K : Frag) : Bool := dfl0B K (mAt K (ca K "BadObject") "__init__")
def x51 (K : Frag) : Bool := dfl0B K (mAt K (ca K "NoObject") "__init__")
def x52 (K : Frag) : Bool := excB K (ca K "BadName") "ValueError.__new__" okVE
def x53 (K : Frag) : Bool := PySem.W.keepIn K (.ref (ca K "BadName"))
def x54 (K : Frag) : Bool := decide (PySem.W.subIn K (.ref (ca K "BadName")) (.type "BaseException") = some true)
def x55 (K : Frag) : Bool := decide (PySem.W.typeIn K (.ref (ca K "BadName")) = some (.type "type"))
def x56 (K : Frag) : Bool := He.eqO (PySem.W.findIn K (.ref (ca K "BadName")) "__init__") (some (some (.ref (mAt K (ca K "ForkError") "__init__"))))
def x57 (K : Frag) : Bool := He.eqO (PySem.W.findIn K (.ref (ca K "BadName")) "__setattr__") (some (some (.builtin "object.__setattr__")))
def x58 (K : Frag) : Bool := He.eqO (PySem.W.findIn K (.ref (ca K "BadName")) "why") (some none)
def x59 (K : Frag) : Bool := decide (PySem.W.subIn K (.ref (ca K "BadName")) (.type "ValueError") = some true)
def x60 (K : Frag) : Bool := excB K (ca K "BadPath") "ValueError.__new__" okVE
def x61 (K : Frag) : Bool := PySem.W.keepIn K (.ref (ca K "BadPath"))
def x62 (K : Frag) : Bool := decide (PySem.W.subIn K (.ref (ca K "BadPath")) (.type "BaseException") = some true)
def x63 (K : Frag) : Bool := decide (PySem.W.typeIn K (.ref (ca K "BadPath")) = some (.type "type"))
def x64 (K : Frag) : Bool := He.eqO (PySem.W.findIn K (.ref (ca K "BadPath")) "__init__") (some (some (.ref (mAt K (ca K "ForkError") "__init__"))))
def x65 (K : Frag) : Bool := He.eqO (PySem.W.findIn K (.ref (ca K "BadPath")) "__setattr__") (some (some (.builtin "object.__setattr__")))
def x66 (K : Frag) : Bool := He.eqO (PySem.W.findIn K (.ref (ca K "BadPath")) "why") (some none)
def x67 (K : Frag) : Bool := decide (PySem.W.subIn K (.ref (ca K "BadPath")) (.type "ValueError") = some true)
def x68 (K : Frag) : Bool := excB K (ca K "BadObject") "ValueError.__new__" okVE
def x69 (K : Frag) : Bool := PySem.W.keepIn K (.ref (ca K "BadObject"))
def x70 (K : Frag) : Bool := decide (PySem.W.subIn K (.ref (ca K "BadObject")) (.type "BaseException") = some true)
def x71 (K : Frag) : Bool := decide (PySem.W.typeIn K (.ref (ca K "BadObject")) = some (.type "type"))
def x72 (K : Frag) : Bool := He.eqO (PySem.W.findIn K (.ref (ca K "BadObject")) "__init__") (some (some (.ref (mAt K (ca K "BadObject") "__init__"))))
def x73 (K : Frag) : Bool := He.eqO (PySem.W.findIn K (.ref (ca K "BadObject")) "__setattr__") (some (some (.builtin "object.__setattr__")))
def x74 (K : Frag) : Bool := He.eqO (PySem.W.findIn K (.ref (ca K "BadObject")) "at") (some none)
def x75 (K : Frag) : Bool := He.eqO (PySem.W.findIn K (.ref (ca K "BadObject")) "why") (some none)
def x76 (K : Frag) : Bool := decide (PySem.W.subIn K (.ref (ca K "BadObject")) (.type "ValueError") = some true)
def x77 (K : Frag) : Bool := excB K (ca K "NoObject") "LookupError.__new__" okKE
def x78 (K : Frag) : Bool := PySem.W.keepIn K (.ref (ca K "NoObject"))
def x79 (K : Frag) : Bool := decide (PySem.W.subIn K (.ref (ca K "NoObject")) (.type "BaseException") = some true)
def x80 (K : Frag) : Bool := decide (PySem.W.typeIn K (.ref (ca K "NoObject")) = some (.type "type"))
def x81 (K : Frag) : Bool := He.eqO (PySem.W.findIn K (.ref (ca K "NoObject")) "__init__") (some (some (.ref (mAt K (ca K "NoObject") "__init__"))))
def x82 (K : Frag) : Bool := He.eqO (PySem.W.findIn K (.ref (ca K "NoObject")) "__setattr__") (some (some (.builtin "object.__setattr__")))
def x83 (K : Frag) : Bool := He.eqO (PySem.W.findIn K (.ref (ca K "NoObject")) "name") (some none)
def x84 (K : Frag) : Bool := decide (PySem.W.subIn K (.ref (ca K "NoObject")) (.type "KeyError") = some true)
def x85 (K : Frag) : Bool := decide (PySem.W.mroIn K (ca K "BadName") (.ref (ca K "ForkError")) = some true)
def x86 (K : Frag) : Bool := He.eqO (PySem.W.ks_superIn K (ca K "BadName") (ca K "ForkError") "__init__") (some (some (.builtin "ValueError.__init__")))
def x87 (K : Frag) : Bool := decide (PySem.W.mroIn K (ca K "BadPath") (.ref (ca K "ForkError")) = some true)
def x88 (K : Frag) : Bool := He.eqO (PySem.W.ks_superIn K (ca K "BadPath") (ca K "ForkError") "__init__") (some (some (.builtin "ValueError.__init__")))
def x89 (K : Frag) : Bool := decide (PySem.W.mroIn K (ca K "BadObject") (.ref (ca K "BadObject")) = some true)
def x90 (K : Frag) : Bool := He.eqO (PySem.W.ks_superIn K (ca K "BadObject") (ca K "BadObject") "__init__") (some (some (.ref (mAt K (ca K "ForkError") "__init__"))))
def x91 (K : Frag) : Bool := decide (PySem.W.mroIn K (ca K "BadObject") (.ref (ca K "ForkError")) = some true)
def x92 (K : Frag) : Bool := He.eqO (PySem.W.ks_superIn K (ca K "BadObject") (ca K "ForkError") "__init__") (some (some (.builtin "ValueError.__init__")))
def x93 (K : Frag) : Bool := decide (PySem.W.mroIn K (ca K "NoObject") (.ref (ca K "NoObject")) = some true)
def x94 (K : Frag) : Bool := He.eqO (PySem.W.ks_superIn K (ca K "NoObject") (ca K "NoObject") "__init__") (some (some (.builtin "KeyError.__init__")))
def x95 (K : Frag) : Bool := He.eqO (PySem.W.nsIn K cStatics "thirdparty.any") (some none)
def x96 (K : Frag) : Bool := He.tupB K "KINDS" [.str "file", .str "exec", .str "dir"]
def exL : List (Frag → Bool) := [x0, x1, x2, x3, x4, x5, x6, x7, x8, x9, x10, x11, x12, x13, x14, x15, x16, x17, x18, x19, x20, x21, x22, x23, x24, x25, x26, x27, x28, x29, x30, x31, x32, x33, x34, x35, x36, x37, x38, x39, x40, x41, x42, x43, x44, x45, x46, x47, x48, x49, x50, x51, x52, x53, x54, x55, x56, x57, x58, x59, x60, x61, x62, x63, x64, x65, x66, x67, x68, x69, x70, x71, x72, x73, x74, x75, x76, x77, x78, x79, x80, x81, x82, x83, x84, x85, x86, x87, x88, x89, x90, x91, x92, x93, x94, x95, x96]
def exK (K : Frag) : Bool := exL.all fun t => t K
def dA0 : DefA := ⟨fun K => (gAt K (ca K "Blob") "text"), "text", "Blob.text", sBText, []⟩
def dA1 : DefA := ⟨fun K => (gAt K (ca K "Tree") "entries"), "entries", "Tree.entries", sTEnt, []⟩
def dA2 : DefA := ⟨fun K => (mAt K (ca K "ForkError") "__init__"), "__init__", "ForkError.__init__", sFork, [("__class__" : Str)]⟩
def dA3 : DefA := ⟨fun K => (mAt K (ca K "BadObject") "__init__"), "__init__", "BadObject.__init__", sBadObj, [("__class__" : Str)]⟩
def dA4 : DefA := ⟨fun K => (mAt K (ca K "NoObject") "__init__"), "__init__", "NoObject.__init__", sNoObj, [("__class__" : Str)]⟩
def dAL : List DefA := [dA0, dA1, dA2, dA3, dA4]
/-- what is told of the part K of the heap -/
structure SaysK (K : Frag) : Prop where
  d : He.SaysD faL fnL K
  more : exK K = true
  fa : dAL.map (fun d => fnA K (d.at_ K)) = dAL.map DefA.val
theorem SaysK.x {K : Frag} (c : SaysK K) (i : Nat) {t : Frag → Bool} (h : exL[i]? = some t := by rfl) : t K = true := List.all_eq_true.mp c.more t (List.mem_of_getElem? h)
theorem SaysK.a {K : Frag} (c : SaysK K) (i : Nat) {d : DefA} (h : dAL[i]? = some d := by rfl) : fnA K (d.at_ K) = d.val := by
  have e : (dAL.map fun d => fnA K (d.at_ K))[i]? = (dAL.map DefA.val)[i]? := by rw [c.fa]
  rw [List.getElem?_map, List.getElem?_map, h] at e
  exact Option.some.inj e
/-- what an object names, for the part that is looked at -/
def refsK (o : Obj) : List Addr := match o.data with
  | .dict es _ => es.toList.flatMap fun e => He.refV e.val
  | .func fd => He.refV fd.code ++ (He.refV fd.defaults ++ (He.refV fd.kwdefaults ++ fd.closure.map (·.2)))
  | .cls cd => [cd.ns]
  | .fields vs => (match o.cls with
    | .type "property" => vs.toList.flatMap He.refV
    | _ => [])
  | _ => []
/-- the objects reached, each once: m marks the addresses seen -/
def reachK (g : Addr → Option Obj) : Nat → List Addr → Nat → Frag
  | 0, _, _ => []
  | _ + 1, [], _ => []
  | n + 1, a :: r, m => match Nat.beq (Nat.land (Nat.shiftRight m a) 1) 0 with
    | false => reachK g n r m
    | true => (match g a with
      | some o => (a, o) :: reachK g n (refsK o ++ r) (Nat.lor m (Nat.shiftLeft 1 a))
      | none => reachK g n r m)
theorem reachK_mem {g : Addr → Option Obj} {a : Addr} {o : Obj} : ∀ {n : Nat} {as : List Addr} {m : Nat}, (a, o) ∈ reachK g n as m → g a = some o
  | 0, _, _, h => by cases h
  | _ + 1, [], _, h => by cases h
  | n + 1, b :: r, m, h => by
    unfold reachK at h
    split at h
    · exact reachK_mem h
    · split at h
      · rename_i o' e
        cases h with
        | head => exact e
        | tail _ h => exact reachK_mem h
      · exact reachK_mem h
def partK (g : Addr → Option Obj) : Frag := reachK g 3000 [mainGlobals, cStatics] 0
theorem partK_in {h : Heap} : (partK h.get?).In h := fun _ _ e => reachK_mem (He.lookup_mem e)
abbrev AlK : Type := He.AlD × Bool × List FnA
def obsK (K : Frag) : AlK := (He.obsD faL fnL K, exK K, dAL.map fun d => fnA K (d.at_ K))
def valK : AlK := (He.valD fnL, true, dAL.map DefA.val)
def hookK : PySem.W.Hook where
  α := AlK
  obs := fun s => obsK (partK s.heap.get?)
  val := fun _ => valK
  says := fun _ h => ∃ K : Frag, K.In h ∧ SaysK K
  of := fun _ _ e => ⟨_, partK_in, ⟨congrArg (fun z : AlK => z.1) e, congrArg (fun z : AlK => z.2.1) e, congrArg (fun z : AlK => z.2.2) e⟩⟩
  keeps := fun _ _ _ ⟨K, hK, c⟩ k => ⟨K, PySem.W.Frag.In.keeps hK k, c⟩
theorem hookK_eq {g : Addr → Option Obj} {s : Shared} (h : ∀ a, g a = s.heap.get? a) : obsK (partK g) = hookK.obs s := by
  have e : g = s.heap.get? := funext h
  rw [e] <;> rfl

abbrev rwK : PySem.W.OpenRow := PySem.W.OpenLaw.row PySem.Challenge.rw_forkhaul_k08_whole_files_and_trees
def obK (s : PySem.W.SharedT) : AlK := obsK (partK (HandSHeadRun.getT s))
theorem obK_eq (s : PySem.W.SharedT) : obK s = hookK.obs s.abs := hookK_eq (HandSHeadRun.getT_eq s)
def loose1 : List Str := ["_wall", "ForkError", "BadName", "BadPath", "BadObject", "Clash", "NoObject", "SMALL", "DIGITS", "HEX", "ID_LENGTH", "MOST_SEGMENTS", "MOST_SEGMENT", "MOST_TEXT", "MOST_MESSAGE", "MOST_TIME", "is_whole", "is_count", "is_time", "has_only"]
def loose2 : List Str := ["is_id", "is_segment", "is_path", "is_author", "is_text", "are_ids", "above", "KINDS", "MOST_ENTRIES", "MOST_PARENTS", "Blob", "is_entry", "Tree", "are_parents", "Commit", "Tag", "is_object", "LONG", "SHORT", "FACTOR"]
def loose3 : List Str := ["encode_tree", "encode_commit", "encode", "sum_of", "id_of", "Store", "is_value", "check_files", "clashes", "put_below", "_law_cell_at", "_law_well", "_law_draw", "_law_pick", "_law_signs", "_law_all_signs", "_law_segment", "_law_path", "_law_text", "_law_id"]
def loose4 : List Str := ["_law_small_path", "_law_files", "_law_twice", "_law_trees", "_law_clash", "_law_tree_right", "_law_put", "_law_read", "_law_refused_right", "_law_hand_right"]
def looseK : List Str := loose1 ++ loose2 ++ loose3 ++ loose4
theorem runK (w : World) : HandSHeadRun.RunEq rwK (PySem.W.view rwK.prog [76]) hookK obK 8000 looseK w := by
  intro os
  kernel_rfl
end FK
namespace FKH
open PySem PySem.W PySem.Calls PyProof.Rows
abbrev RQ := PySem.W.OpenLaw.row PySem.Challenge.rw_forkhaul_k08_whole_files_and_trees
abbrev qQ := PySem.W.view RQ.prog [76]
theorem h1 : opening RQ.prog = plainProg RQ.prog.main.scope.names := by kernel_rfl
theorem h2 : ∀ s, fenceModules? RQ.prog s = some s := fun s => by kernel_rfl
theorem h3 : defOf qQ RQ.name = some (HandSHeadRun.topDef RQ.prog 76, []) := by kernel_rfl
theorem h4 : RQ.prog.theDef RQ.name = some ((HandSHeadRun.topDef RQ.prog 76).params, (HandSHeadRun.topDef RQ.prog 76).body, (HandSHeadRun.topDef RQ.prog 76).scope) := by kernel_rfl
theorem h5 : kwWritten? (HandSHeadRun.topDef RQ.prog 76).params.kwonlyargs (HandSHeadRun.topDef RQ.prog 76).params.kw_defaults = some [] := by kernel_rfl
theorem h6 : (!RQ.writes || RQ.records.isEmpty) = true := by rfl
theorem h7 : RQ.wellSaid = true := by decide +kernel
theorem h8 : (chainsOk qQ && opensWell RQ.prog && (frees RQ.toRowW && RQ.within.isEmpty)) = true := by decide +kernel
theorem h9 : RQ.prog.bare := ⟨rfl, rfl, rfl, rfl, rfl, by decide +kernel⟩
theorem h10 : RQ.toRowW.promised := by w_witness2
end FKH
set_option maxHeartbeats 4000000
/-! Forkhaul k08: the base words. -/
namespace FK
open PySem PySem.Spec PyProof.Rows L2

/-! ### the text by places -/

/-! ### a global def as it stands, and what it promises -/
structure GF (K : PySem.W.Frag) (mg : Str → Option Value) (x : Str) (st : Stmt) (dvs : List V := []) (kws : List (Str × V) := []) : Prop where
  mgx : mg x = some (.ref (He.ga K x))
  fd : ∃ fd, FunD K x x (defArgs st) (defBody st) (defScope st) dvs kws (He.ga K x) fd
structure Cal (P : Program) (w : World) (K : PySem.W.Frag) (mg : Str → Option Value) (base : Heap) (CX : CXT) (k : Nat) (x : Str) (ps : List Str) (sp : Sp) (dvs : List V := []) : Prop where
  mgx : mg x = some (.ref (He.ga K x))
  kp : PySem.W.keepIn K (.ref (He.ga K x)) = true
  ok : ∃ fd ds, FnOk P w K mg base CX k (He.ga K x) fd ps sp ∧ Binds K fd ps ds ∧ Vals dvs ds

section
variable {P : Program} {w : World} {K : PySem.W.Frag} {mg : Str → Option Value} {base : Heap}
theorem cal0 {x : Str} {st : Stmt} {N ps : List Str} {k : Nat} {sp : Sp} (F : GF K mg x st) (S : FnScope N ps (defScope st))
    (hb : ∀ (kV doc pm : Value) (an : Option Addr) (cdv ct : Value) (us : List Value), us.length = ps.length → bindArgs (PySem.W.fnOf x x (defArgs st) (defBody st) (defScope st) .none kV doc pm an cdv ct) ⟨us, []⟩ = pure (ps.zip us))
    (len : ∀ vs H Q E, sp vs H Q E → vs.length = ps.length)
    (hbody : ∀ (cdv : Value) (A : Around) (outer : List Env) (s : Shared) (H : Hp) (vs : List V) (Q : VK) (E : XK), Room k (A.deeper (envOfC x (defScope st) s.heap.objs.size (He.ga K x) cdv)) → sp vs H Q E →
      ∃ t, PSs (cxOf CX0 P w K mg base N x (defScope st) (He.ga K x) cdv A outer s H E).nox (defBody st) t ∧ t { nx := fun _ H' => Q .non H', rt := Q } (start N vs) H) : Cal P w K mg base CX0 (k + 1) x ps sp := by
  obtain ⟨fd, FD⟩ := F.fd
  refine ⟨F.mgx, FD.kp, fd, [], FD.ok S len fun cdv A outer s H vs Q E hr h => ?_, FD.bindsN hb, .nil⟩
  obtain ⟨t, p, q⟩ := hbody cdv A outer s H vs Q E hr h
  exact ⟨t, p.nox, q⟩
theorem calX {x : Str} {st : Stmt} {N ps : List Str} {k : Nat} {sp : Sp} (F : GF K mg x st) (S : FnScope N ps (defScope st))
    (hb : ∀ (kV doc pm : Value) (an : Option Addr) (cdv ct : Value) (us : List Value), us.length = ps.length → bindArgs (PySem.W.fnOf x x (defArgs st) (defBody st) (defScope st) .none kV doc pm an cdv ct) ⟨us, []⟩ = pure (ps.zip us))
    (len : ∀ vs H Q E, sp vs H Q E → vs.length = ps.length)
    (hbody : ∀ (cdv : Value) (A : Around) (outer : List Env) (s : Shared) (H : Hp) (vs : List V) (Q : VK) (E : XK), Room k (A.deeper (envOfC x (defScope st) s.heap.objs.size (He.ga K x) cdv)) → sp vs H Q E →
      ∃ t, PSs (cxOf (L2.CX P w) P w K mg base N x (defScope st) (He.ga K x) cdv A outer s H E) (defBody st) t ∧ t { nx := fun _ H' => Q .non H', rt := Q } (start N vs) H) : Cal P w K mg base (L2.CX P w) (k + 1) x ps sp := by
  obtain ⟨fd, FD⟩ := F.fd
  exact ⟨F.mgx, FD.kp, fd, [], FD.ok S len hbody, FD.bindsN hb, .nil⟩
theorem Cal.mono {CX : CXT} {j k : Nat} {x : Str} {ps : List Str} {sp : Sp} {dvs : List V} (G : Cal P w K mg base CX j x ps sp dvs) (h : j ≤ k) : Cal P w K mg base CX k x ps sp dvs := by
  obtain ⟨m, kp, fd, ds, o, b, d⟩ := G
  exact ⟨m, kp, fd, ds, o.mono h, b, d⟩
theorem Cal.imp {CX : CXT} {k : Nat} {x : Str} {ps : List Str} {sp sp' : Sp} {dvs : List V} (G : Cal P w K mg base CX k x ps sp dvs) (h : ∀ vs H Q E, sp' vs H Q E → sp vs H Q E) : Cal P w K mg base CX k x ps sp' dvs := by
  obtain ⟨m, kp, fd, ds, o, b, d⟩ := G
  exact ⟨m, kp, fd, ds, o.imp h, b, d⟩
end
section
variable {X : Cx} {CX : CXT} {k : Nat} {ps : List Str} {sp : Sp} {dvs : List V} {E : XK} {x : Str} {p pos : Pos} {e : Expr} {es : List Expr} {t : TA}
/-- f(e, ..) -/
theorem pcal (G : Cal X.prog X.w X.K X.mg X.base CX k x ps sp dvs) (hr : Room k X.A) (hg : Gl X x) (hx : Passes CX X E) (ha : PA X (e :: es) t) (hdb : (x == ("__debug__" : Str)) = false := by decide)
    (he : starEach (e :: es) X.env = (false, eval e X.env) :: starEach es X.env := by rfl) (hpl : (backTo pos (starEach es X.env)).any (·.1) = false := by rfl) :
    PE X (.Call (.Name x p) (e :: es) [] pos) (tCall sp dvs E t) := by
  obtain ⟨m, kp, fd, ds, o, b, d⟩ := G
  exact pe_call o hr hg m kp b d hx ha hdb he hpl
end

/-! ### what is walked, of n turns -/
section
variable {J : It} {n : Nat}
theorem lc_of {g : TG} {tt : TT} {te : TE} {vs : List Nat} {σ : L2.St} {H1 : Hp} {D : Addr} {Qd : Hp → Prop} (Pv : Nat → Hp → Prop) (h0 : Pv 0 (upd H1 D (.lst [])))
    (hgo : ∀ i H, i < n → Pv i H → J.go i H) (hst : ∀ H, Pv n H → J.stop n H)
    (hs : ∀ i x H H', i < n → Pv i H → J.yld i H x H' → g x (wipe σ vs) H' fun σ2 H2 => wipe σ2 vs = wipe σ vs ∧ tt σ2 H2 fun b H3 =>
      if b = true then te σ2 H3 fun y H4 => ∃ acc, H4 D = some (.lst acc) ∧ acc.length < sizeLine ∧ Pv (i + 1) (upd H4 D (.lst (acc ++ [y]))) else Pv (i + 1) H3) (hd : ∀ H, Pv n H → Qd H) :
    ∃ W : Nat → Nat → Hp → Prop, (∃ m, W 0 m (upd H1 D (.lst []))) ∧ ∀ i m H, W i m H →
      (J.stop i H ∧ Qd H) ∨ (J.go i H ∧ ∃ Nx : Hp → Prop, (∀ H', Nx H' → ∃ m', m' < m ∧ W (i + 1) m' H') ∧ ∀ x H', J.yld i H x H' → g x (wipe σ vs) H' fun σ2 H2 => wipe σ2 vs = wipe σ vs ∧ tt σ2 H2 fun b H3 =>
        if b = true then te σ2 H3 fun y H4 => ∃ acc, H4 D = some (.lst acc) ∧ acc.length < sizeLine ∧ Nx (upd H4 D (.lst (acc ++ [y]))) else Nx H3) := by
  refine ⟨fun i m H => m = n - i ∧ i ≤ n ∧ Pv i H, ⟨n, by simp, Nat.zero_le _, h0⟩, ?_⟩
  rintro i m H ⟨rfl, hi, p⟩
  by_cases hlt : i < n
  · exact .inr ⟨hgo i H hlt p, Pv (i + 1), fun H' p' => ⟨n - (i + 1), by omega, rfl, hlt, p'⟩, fun x H' y => hs i x H H' hlt p y⟩
  · have e : i = n := by omega
    subst e
    exact .inl ⟨hst H p, hd H p⟩
theorem dc_of {g : TG} {tt : TT} {tk tv : TE} {vs : List Nat} {σ : L2.St} {H1 : Hp} {D : Addr} {Qd : Hp → Prop} (Pv : Nat → Hp → Prop) (h0 : Pv 0 (upd H1 D (.dK [])))
    (hgo : ∀ i H, i < n → Pv i H → J.go i H) (hst : ∀ H, Pv n H → J.stop n H)
    (hs : ∀ i x H H', i < n → Pv i H → J.yld i H x H' → g x (wipe σ vs) H' fun σ2 H2 => wipe σ2 vs = wipe σ vs ∧ tt σ2 H2 fun b H3 =>
      if b = true then tk σ2 H3 fun y H4 => tv σ2 H4 fun z H5 => ∃ kvs k, y = kV k ∧ H5 D = some (.dK kvs) ∧ kvs.length < sizeLine ∧ Pv (i + 1) (upd H5 D (.dK (putK kvs k z))) else Pv (i + 1) H3) (hd : ∀ H, Pv n H → Qd H) :
    ∃ W : Nat → Nat → Hp → Prop, (∃ m, W 0 m (upd H1 D (.dK []))) ∧ ∀ i m H, W i m H →
      (J.stop i H ∧ Qd H) ∨ (J.go i H ∧ ∃ Nx : Hp → Prop, (∀ H', Nx H' → ∃ m', m' < m ∧ W (i + 1) m' H') ∧ ∀ x H', J.yld i H x H' → g x (wipe σ vs) H' fun σ2 H2 => wipe σ2 vs = wipe σ vs ∧ tt σ2 H2 fun b H3 =>
        if b = true then tk σ2 H3 fun y H4 => tv σ2 H4 fun z H5 => ∃ kvs k, y = kV k ∧ H5 D = some (.dK kvs) ∧ kvs.length < sizeLine ∧ Nx (upd H5 D (.dK (putK kvs k z))) else Nx H3) := by
  refine ⟨fun i m H => m = n - i ∧ i ≤ n ∧ Pv i H, ⟨n, by simp, Nat.zero_le _, h0⟩, ?_⟩
  rintro i m H ⟨rfl, hi, p⟩
  by_cases hlt : i < n
  · exact .inr ⟨hgo i H hlt p, Pv (i + 1), fun H' p' => ⟨n - (i + 1), by omega, rfl, hlt, p'⟩, fun x H' y => hs i x H H' hlt p y⟩
  · have e : i = n := by omega
    subst e
    exact .inl ⟨hst H p, hd H p⟩
theorem for_of {g : TG} {tb : TS} {D : Ends} {σ : L2.St} {H : Hp} (Pv : Nat → L2.St → Hp → Prop) (h0 : Pv 0 σ H)
    (hgo : ∀ i σ H, i < n → Pv i σ H → J.go i H) (hst : ∀ σ H, Pv n σ H → J.stop n H)
    (hs : ∀ i x σ H H', i < n → Pv i σ H → J.yld i H x H' → g x σ H' fun σ2 H2 => tb { D with nx := Pv (i + 1), ct := Pv (i + 1), bk := D.nx } σ2 H2) (hd : ∀ σ H, Pv n σ H → D.nx σ H) :
    ∃ W : Nat → Nat → L2.St → Hp → Prop, (∃ m, W 0 m σ H) ∧ ∀ i m σ H, W i m σ H →
      (J.stop i H ∧ D.nx σ H) ∨ (J.go i H ∧ ∃ N : L2.St → Hp → Prop, (∀ σ' H', N σ' H' → ∃ m', m' < m ∧ W (i + 1) m' σ' H') ∧ ∀ x H', J.yld i H x H' → g x σ H' fun σ2 H2 => tb { D with nx := N, ct := N, bk := D.nx } σ2 H2) := by
  refine ⟨fun i m σ H => m = n - i ∧ i ≤ n ∧ Pv i σ H, ⟨n, by simp, Nat.zero_le _, h0⟩, ?_⟩
  rintro i m σ H ⟨rfl, hi, p⟩
  by_cases hlt : i < n
  · exact .inr ⟨hgo i σ H hlt p, Pv (i + 1), fun σ' H' p' => ⟨n - (i + 1), by omega, rfl, hlt, p'⟩, fun x H' y => hs i x σ H H' hlt p y⟩
  · have e : i = n := by omega
    subst e
    exact .inl ⟨hst σ H p, hd σ H p⟩
end

end FK
namespace L2
open PySem PySem.Spec PyProof.Rows
/-! ### heaps -/
theorem Same.new {H : Hp} {p : Addr} {o : HO} (h : H p = none) : Same H (upd H p o) := fun b u e => by rw [upd_ne (ne_of_none e h)]; exact e
theorem Same.new' {H H1 : Hp} {p : Addr} {o : HO} (s : Same H H1) (h : H1 p = none) : Same H (upd H1 p o) := s.trans (Same.new h)
/-- an object that H does not know may change -/
theorem Same.mut {H H1 : Hp} {p : Addr} {o : HO} (s : Same H H1) (h : H p = none) : Same H (upd H1 p o) := fun b u e => by
  rw [upd_ne (ne_of_none e h)]
  exact s b u e
theorem Same.tup {K : PySem.W.Frag} {H H' : Hp} {a : Addr} {xs : List V} (e : Same H H') (h : SqT K H a xs) : SqT K H' a xs := by
  rcases h with (h | ⟨o, h⟩) | h
  · exact .inl (.inl (e _ _ h))
  · exact .inl (.inr ⟨o, e _ _ h⟩)
  · exact .inr h
end L2

/-! Forkhaul k08: texts, the mathematics. -/
namespace FK
open PySem PySem.Spec PyProof.Rows L2 TL

theorem tl_slash : tl ("/" : Str) = [47] := by decide +kernel
theorem spl_count (S : List Nat) : ∀ (l acc : List Nat) (k : Nat), (spl S k acc l).length ≤ l.length + 1
  | [], acc, k => by rw [spl_nil]; simp
  | c :: r, acc, 0 => by
    by_cases h : pre S (c :: r) = true
    · rw [spl_hit h]
      have := spl_count S r [] (S.length - 1)
      simp only [List.length_cons]
      omega
    · rw [spl_miss (Bool.eq_false_iff.mpr h)]
      have := spl_count S r (acc ++ [c]) 0
      simp only [List.length_cons]
      omega
  | c :: r, acc, k + 1 => by
    show (spl S k acc r).length ≤ _
    have := spl_count S r acc k
    simp only [List.length_cons]
    omega
theorem spl_piece (S : List Nat) : ∀ (l acc : List Nat) (k : Nat), ∀ p ∈ spl S k acc l, p.length ≤ acc.length + l.length
  | [], acc, k, p, h => by
    rw [spl_nil] at h
    rw [List.mem_singleton.mp h]
    simp
  | c :: r, acc, 0, p, h => by
    by_cases e : pre S (c :: r) = true
    · rw [spl_hit e] at h
      rcases List.mem_cons.mp h with rfl | h
      · omega
      · have := spl_piece S r [] (S.length - 1) p h
        simp only [List.length_cons, List.length_nil] at *
        omega
    · rw [spl_miss (Bool.eq_false_iff.mpr e)] at h
      have := spl_piece S r (acc ++ [c]) 0 p h
      simp only [List.length_cons, List.length_append, List.length_nil] at *
      omega
  | c :: r, acc, k + 1, p, h => by
    have := spl_piece S r acc k p h
    simp only [List.length_cons]
    omega
theorem slash_plain : (("/" : Str).cps.all (· < 256)) = true := by decide +kernel
theorem slash_ne : tl ("/" : Str) ≠ [] := by rw [tl_slash]; simp
theorem split_map (z : Str) : (Txt.split z "/").map tl = spl [47] 0 [] (tl z) := by
  rw [← tl_slash]
  exact split_spl z "/" slash_ne (kind_ok slash_plain)
theorem split_count (z : Str) : (Txt.split z "/").length ≤ z.length + 1 := by
  have h := congrArg List.length (split_map z)
  rw [List.length_map] at h
  rw [h, len_tl]
  exact spl_count _ _ _ _
theorem split_piece {z x : Str} (h : x ∈ Txt.split z "/") : x.length ≤ z.length := by
  have h1 : tl x ∈ (Txt.split z "/").map tl := List.mem_map_of_mem h
  rw [split_map] at h1
  have := spl_piece _ _ _ _ _ h1
  rw [len_tl, len_tl]
  simpa using this

/-! ### paths: segments joined by / -/
def NoSl (x : Str) : Prop := 47 ∉ tl x
/-- the segments joined -/
def jn (l : List Str) : Str := Txt.join "/" l
/-- the segments, each with a slash behind it -/
def fr (l : List Str) : Str := l.foldr (fun s r => s ++ ("/" : Str) ++ r) Str.empty
theorem tl_empty : tl Str.empty = [] := by decide +kernel
theorem split_jn {l : List Str} (hne : l ≠ []) (h : ∀ s ∈ l, NoSl s) : Txt.split (jn l) "/" = l := split_join tl_slash slash_plain hne h
theorem jn_inj {l m : List Str} (h1 : l ≠ []) (h2 : m ≠ []) (n1 : ∀ s ∈ l, NoSl s) (n2 : ∀ s ∈ m, NoSl s) (e : jn l = jn m) : l = m := by
  rw [← split_jn h1 n1, ← split_jn h2 n2, e]
theorem tl_jn (l : List Str) : tl (jn l) = joinL [47] (l.map tl) := by
  unfold jn
  rw [join_eq, tl_join, tl_slash]
theorem jn_one (s : Str) : jn [s] = s := ext_tl (by rw [tl_jn]; rfl)
theorem jn_cons {s : Str} {l : List Str} (h : l ≠ []) : jn (s :: l) = s ++ ("/" : Str) ++ jn l := by
  refine ext_tl ?_
  rw [tl_jn, tl_append, tl_append, tl_jn, tl_slash]
  cases l with
  | nil => exact absurd rfl h
  | cons t r =>
    show joinL [47] (tl s :: tl t :: r.map tl) = _
    simp [joinL]
theorem str_append_assoc (a b c : Str) : a ++ b ++ c = a ++ (b ++ c) := ext_tl (by simp only [tl_append, List.append_assoc])
theorem fr_nil : fr [] = Str.empty := rfl
theorem fr_cons (s : Str) (l : List Str) : fr (s :: l) = s ++ ("/" : Str) ++ fr l := rfl
theorem str_empty_app (a : Str) : Str.empty ++ a = a := ext_tl (by rw [tl_append, tl_empty]; rfl)
theorem str_app_empty (a : Str) : a ++ Str.empty = a := ext_tl (by rw [tl_append, tl_empty, List.append_nil])
theorem fr_snoc (l : List Str) (s : Str) : fr (l ++ [s]) = fr l ++ s ++ ("/" : Str) := by
  induction l with
  | nil => rw [List.nil_append, fr_cons, fr_nil, str_app_empty, str_empty_app]
  | cons t r ih => rw [List.cons_append, fr_cons, ih, fr_cons]; simp only [str_append_assoc]
theorem jn_app {l m : List Str} (h : m ≠ []) : jn (l ++ m) = fr l ++ jn m := by
  induction l with
  | nil => rw [List.nil_append, fr_nil, str_empty_app]
  | cons t r ih =>
    rw [List.cons_append, jn_cons (by simp [h]), ih, fr_cons]
    simp only [str_append_assoc]
/-- a joined path with a slash behind it -/
theorem jn_slash {l : List Str} (h : l ≠ []) : jn l ++ ("/" : Str) = fr l := by
  induction l with
  | nil => exact absurd rfl h
  | cons t r ih =>
    cases r with
    | nil => rw [jn_one, fr_cons, fr_nil, str_app_empty]
    | cons u v => rw [jn_cons (by simp), fr_cons, ← ih (by simp)]; simp only [str_append_assoc]
/-- the front of a path -/
theorem pre_iff (S l : List Nat) : pre S l = true ↔ ∃ r, l = S ++ r := by
  unfold pre
  rw [beq_iff_eq]
  constructor
  · intro h
    exact ⟨l.drop S.length, by
      have e := (List.take_append_drop S.length l).symm
      rw [h] at e
      exact e⟩
  · rintro ⟨r, rfl⟩
    simp
theorem startswith_iff (x y : Str) : Txt.startswith x y = true ↔ ∃ r, tl x = tl y ++ r := by
  have hx := len_tl x
  have hl := len_tl y
  have es : Builtin.Str.subAt x y 0 = ((tl x).take y.length == tl y) := by
    unfold Builtin.Str.subAt
    rw [Bool.eq_iff_iff, beq_iff_eq, beq_iff_eq, ← Array.toList_inj]
    simp
  unfold Txt.startswith
  rw [es, Bool.and_eq_true, decide_eq_true_iff, beq_iff_eq]
  constructor
  · rintro ⟨_, e⟩
    have q := (List.take_append_drop y.length (tl x)).symm
    rw [e] at q
    exact ⟨_, q⟩
  · rintro ⟨r, e⟩
    refine ⟨by rw [hx, e, List.length_append, hl]; omega, ?_⟩
    rw [e, hl]
    simp
/-- the front of a joined path, cut off -/
theorem fr_front : ∀ {p l : List Str}, l ≠ [] → (∀ s ∈ p, NoSl s) → (∀ s ∈ l, NoSl s) → (Txt.startswith (jn l) (fr p) = true ↔ ∃ r, r ≠ [] ∧ l = p ++ r)
  | [], l, hl, _, _ => by
    rw [startswith_iff, fr_nil, tl_empty]
    exact ⟨fun _ => ⟨l, hl, rfl⟩, fun _ => ⟨_, rfl⟩⟩
  | s :: p, l, hl, hp, hs => by
    have n47 : 47 ∉ tl s := hp s (List.mem_cons_self)
    constructor
    · intro h
      obtain ⟨r, e⟩ := (startswith_iff _ _).mp h
      rw [fr_cons, tl_append, tl_append, tl_slash] at e
      cases l with
      | nil => exact absurd rfl hl
      | cons t m =>
        have m47 : 47 ∉ tl t := hs t (List.mem_cons_self)
        by_cases hm : m = []
        · subst hm
          rw [jn_one] at e
          exact absurd (by rw [e]; simp) m47
        · rw [jn_cons hm, tl_append, tl_append, tl_slash] at e
          have e' : tl t ++ 47 :: tl (jn m) = tl s ++ 47 :: (tl (fr p) ++ r) := by simpa using e
          have cut : ∀ (a b c d : List Nat), 47 ∉ a → 47 ∉ c → a ++ 47 :: b = c ++ 47 :: d → a = c ∧ b = d := by
            intro a
            induction a with
            | nil =>
              intro b c d _ hc q
              cases c with
              | nil => exact ⟨rfl, by simpa using q⟩
              | cons x c => simp at q; exact absurd (by rw [← q.1]; simp) hc
            | cons x a ih =>
              intro b c d ha hc q
              cases c with
              | nil => simp at q; exact absurd (by rw [q.1]; simp) ha
              | cons y c =>
                simp only [List.cons_append, List.cons.injEq] at q
                obtain ⟨q1, q2⟩ := ih b c d (fun z => ha (List.mem_cons_of_mem _ z)) (fun z => hc (List.mem_cons_of_mem _ z)) q.2
                exact ⟨by rw [q.1, q1], q2⟩
          obtain ⟨q1, q2⟩ := cut _ _ _ _ m47 n47 e'
          have et : t = s := ext_tl q1
          subst et
          obtain ⟨r', hr, rfl⟩ := (fr_front (p := p) (l := m) hm (fun z hz => hp z (List.mem_cons_of_mem _ hz)) (fun z hz => hs z (List.mem_cons_of_mem _ hz))).mp ((startswith_iff _ _).mpr ⟨r, q2⟩)
          exact ⟨r', hr, rfl⟩
    · rintro ⟨r, hr, rfl⟩
      rw [jn_app hr]
      exact (startswith_iff _ _).mpr ⟨_, tl_append _ _⟩
/-- behind the front -/
theorem cutS_front (p : List Str) {r : List Str} (hr : r ≠ []) : cutS (jn (p ++ r)) (some ((fr p).length : Int)) none = jn r := by
  rw [jn_app hr]
  refine ext_tl ?_
  unfold cutS
  rw [tl_mk]
  have h1 : (fr p ++ jn r).length = (fr p).length + (jn r).length := by rw [len_tl, len_tl, len_tl, tl_append, List.length_append]
  have h2 : HT.sIx (fr p ++ jn r).length 0 (some ((fr p).length : Int)) = (fr p).length := by rw [HT.sIx_nat, h1]; omega
  have h3 : HT.sIx (fr p ++ jn r).length (fr p ++ jn r).length none = (fr p ++ jn r).length := rfl
  rw [h2, h3, h1]
  show List.take _ (List.drop _ (tl (fr p ++ jn r))) = _
  rw [tl_append, len_tl (fr p), len_tl (jn r), List.drop_left, Nat.add_sub_cancel_left, List.take_length]
/-- a joined path, cut at its first slash -/
theorem partition_jn_one {s : Str} (h : NoSl s) : Txt.partition (jn [s]) "/" = (s, Str.empty, Str.empty) := by
  rw [jn_one]
  exact partition_none tl_slash h
theorem partition_jn {s : Str} {l : List Str} (h : NoSl s) (hl : l ≠ []) : Txt.partition (jn (s :: l)) "/" = (s, ("/" : Str), jn l) := by
  rw [jn_cons hl]
  exact partition_app tl_slash h
end FK

/-! Forkhaul k08: words.py. -/
namespace FK
open PySem PySem.Spec PyProof.Rows L2

/-- the built-ins that no name of the text hides -/
structure Fr (mg : Str → Option Value) : Prop where
  isi : mg "isinstance" = none
  len : mg "len" = none
  all : mg "all" = none
  str : mg "str" = none
  dict : mg "dict" = none
  tuple : mg "tuple" = none
  sorted : mg "sorted" = none
  int : mg "int" = none
  bytes : mg "bytes" = none
  bool : mg "bool" = none
  min : mg "min" = none
  range : mg "range" = none
  list : mg "list" = none
  repr : mg "repr" = none
  super : mg "super" = none

/-! ### the mathematics -/
def cSeg : Str := cSmall ++ cDigits ++ ("._-" : Str)
def hasOnly (t s : Str) : Bool := t.cps.toList.all fun c => decide (c ∈ s.cps.toList)
def isIdS (z : Str) : Bool := decide (z.length = 16) && hasOnly z cHex
def hasDD (z : Str) : Bool := !(Builtin.Str.occurrences z (".." : Str) 0 z.length 1).isEmpty
def isSegS (z : Str) : Bool := decide (1 ≤ z.length) && decide (z.length ≤ 12) && hasOnly z cSeg && !decide (z = ".") && !hasDD z
def isPathS (z : Str) : Bool := decide ((Txt.split z "/").length ≤ 6) && (Txt.split z "/").all isSegS
def signOk (c : Nat) : Bool := (decide (32 ≤ c) && decide (c ≤ 126)) || decide (c = 10)
def isTextS (z : Str) (m : Int) : Bool := decide ((z.length : Int) ≤ m) && z.cps.toList.all signOk

/-- a value that is a text (of no great length), or of another type -/
def StrOr (K : PySem.W.Frag) (H : Hp) (x : V) : Option Str → Prop
  | some z => x = .str z ∧ z.length ≤ 100000
  | none => ∃ t, TyX K H x (.type t) ∧ kitB t "str" = some false
theorem StrOr.isi {K : PySem.W.Frag} {H : Hp} {x : V} {o : Option Str} (h : StrOr K H x o) : ∃ t, TyX K H x t ∧ PySem.W.kitOne K t (.type "str") = some o.isSome := by
  cases o with
  | some z =>
    obtain ⟨rfl, _⟩ := h
    exact ⟨_, .base (.str z), kit_ty (show kitB "str" "str" = some true by decide +kernel)⟩
  | none =>
    obtain ⟨t, ty, e⟩ := h
    exact ⟨_, ty, kit_ty e⟩
theorem line_of {n : Nat} (h : n ≤ 100000) : n ≤ sizeLine := Nat.le_trans h (by decide)
theorem line_lt {n : Nat} (h : n ≤ 100000) : n < sizeLine := Nat.lt_of_le_of_lt h (by decide)

/-! ### promises -/
def spHasOnly : Sp := fun vs H Q _ => ∃ t s : Str, vs = [.str t, .str s] ∧ t.length ≤ 100000 ∧ ∀ H', Same H H' → Q (.bl (hasOnly t s)) H'
def spS (K : PySem.W.Frag) (f : Str → Bool) : Sp := fun vs H Q _ => ∃ x o, vs = [x] ∧ StrOr K H x o ∧ ∀ H', Same H H' → Q (.bl (o.elim false f)) H'

section
variable {P : Program} {w : World} {K : PySem.W.Frag} {mg : Str → Option Value} {base : Heap}

abbrev nHasOnly : List Str := ["text", "signs", "sign"]
theorem scHasOnly : FnScope nHasOnly ["text", "signs"] (defScope sHasOnly) := ⟨rfl, rfl, rfl, by decide +kernel, rfl, by decide +kernel, by decide +kernel⟩
theorem ok_has_only (F : GF K mg "has_only" sHasOnly) (B : Fr mg) : Cal P w K mg base CX0 1 "has_only" ["text", "signs"] spHasOnly := by
  refine cal0 F scHasOnly (fun _ _ _ _ _ _ us hl => match us, hl with | [_, _], _ => rfl) (fun vs H Q E h => ?_) (fun cdv A outer s H vs Q E hr h => ?_)
  · obtain ⟨t, s, rfl, _⟩ := h
    rfl
  · obtain ⟨t, sg, rfl, hl, k⟩ := h
    refine ⟨_, pss_one (ps_ret (pe_callB (cr_all rfl) (by rfl) B.all (by decide +kernel) (pa_cons (pe_lc (own := [("sign", 2)]) (g := gName 2) (tt := tYes) rfl scHasOnly.nd (pi_str (pv 0)) (blkOk_by (N := nHasOnly) (sc := defScope sHasOnly) (by decide +kernel))
      (fun _ _ _ _ _ => pg_name (i := 2) scHasOnly.nd rfl (Or.inl rfl)) (fun _ _ _ _ _ => pts_nil) (fun _ _ _ _ _ => pe_cmpR op_in_sign (pv 2) (pv 1) rfl)) pa_nil))), ?_⟩
    refine ⟨_, rfl, t, rfl, fun D hD => lc_of (n := t.cps.size) (fun i H' => Same H H' ∧ H' D = some (.lst (((t.cps.toList.take i).map fun c => decide (c ∈ sg.cps.toList)).map V.bl)))
      ⟨Same.new hD, upd_same⟩ (fun i H' hi _ => hi) (fun H' _ => Nat.le_refl _) ?_ ?_⟩
    · rintro i x H1 H2 hi ⟨s1, l1⟩ ⟨rfl, c, hc, rfl⟩
      refine ⟨rfl, _, rfl, _, rfl, c, sg, rfl, rfl, _, l1, ?_, ?_, ?_⟩
      · rw [List.length_map, List.length_map]
        exact line_lt (Nat.le_trans (List.length_take_le _ _) (Nat.le_trans (Nat.le_of_lt hi) hl))
      · exact s1.mut hD
      · rw [upd_same]
        have e : t.cps.toList[i]? = some c := by rw [← hc]; simp
        rw [List.take_add_one, e]
        simp
    · rintro H1 ⟨s1, l1⟩
      refine ⟨D, _, rfl, SqL.of l1, ?_⟩
      have e : ((t.cps.toList.take t.cps.size).map fun c => decide (c ∈ sg.cps.toList)).all id = hasOnly t sg := by
        have e1 : t.cps.toList.take t.cps.size = t.cps.toList := List.take_of_length_le (by simp)
        rw [e1, List.all_map]
        rfl
      rw [e]
      exact k _ s1

abbrev nIsId : List Str := ["thing"]
theorem scIsId : FnScope nIsId ["thing"] (defScope sIsId) := ⟨rfl, rfl, rfl, by decide +kernel, rfl, by decide +kernel, by decide +kernel⟩
theorem ok_is_id (F : GF K mg "is_id" sIsId) (G : Cal P w K mg base CX0 1 "has_only" ["text", "signs"] spHasOnly) (B : Fr mg) {t1 t2 : Tok} (g1 : mg "ID_LENGTH" = some (.int 16 t1)) (g2 : mg "HEX" = some (.str cHex t2)) :
    Cal P w K mg base CX0 2 "is_id" ["thing"] (spS K isIdS) := by
  refine cal0 F scIsId (fun _ _ _ _ _ _ us hl => match us, hl with | [_], _ => rfl) (fun vs H Q E h => ?_) (fun cdv A outer s H vs Q E hr h => ?_)
  · obtain ⟨t, s, rfl, _⟩ := h
    rfl
  · obtain ⟨x, o, rfl, ho, k⟩ := h
    refine ⟨_, pss_one (ps_ret (pe_and (pe_callB call_isi (by rfl) B.isi (by decide +kernel) (pa_cons (pv 0) (pa_cons (pe_bltn (v := .ty "str") (by rfl) B.str boot_str rfl) pa_nil)))
      (pe_and (pe_cmpR op_eq (pe_callB call_len_str (by rfl) B.len boot_len (pa_cons (pv 0) pa_nil)) (pe_glob (v := .int 16) (by rfl) g1 ⟨_, rfl⟩) (nomark _))
      (pe_one (pcal G hr (by rfl) pass0 (pa_cons (pv 0) (pa_cons (pe_glob (v := .str cHex) (by rfl) g2 ⟨_, rfl⟩) pa_nil)))))))
      , ?_⟩
    obtain ⟨ty, h1, h2⟩ := ho.isi
    refine ⟨_, rfl, _, _, _, _, _, rfl, .ty _, h1, h2, _, rfl, ?_⟩
    cases o with
    | none => exact k H (Same.refl H)
    | some z =>
      obtain ⟨rfl, hz⟩ := ho
      refine iteT ?_
      refine ⟨_, rfl, z, rfl, line_of hz, rfl, _, rfl, ?_⟩
      have e : decide (V.int (z.length : Int) = V.int 16) = decide (z.length = 16) := by
        by_cases h : z.length = 16
        · rw [h]; rfl
        · rw [decide_eq_false h, decide_eq_false (fun q => h (by injection q with q; omega))]
      rw [e]
      refine ite2 (fun h16 => ?_) (fun h16 => ?_)
      · refine ⟨_, rfl, z, _, rfl, hz, fun H' s1 => ?_⟩
        have e2 : (some z).elim false isIdS = hasOnly z cHex := by
          show (decide (z.length = 16) && hasOnly z cHex) = _
          rw [h16, Bool.true_and]
        rw [← e2]
        exact k H' s1
      · have e2 : (some z).elim false isIdS = false := by
          show (decide (z.length = 16) && hasOnly z cHex) = _
          rw [Bool.eq_false_iff.mpr h16, Bool.false_and]
        rw [← e2]
        exact k H (Same.refl H)

abbrev nIsSeg : List Str := ["thing"]
theorem scIsSeg : FnScope nIsSeg ["thing"] (defScope sIsSegment) := ⟨rfl, rfl, rfl, by decide +kernel, rfl, by decide +kernel, by decide +kernel⟩
theorem ok_is_segment (F : GF K mg "is_segment" sIsSegment) (G : Cal P w K mg base CX0 1 "has_only" ["text", "signs"] spHasOnly) (B : Fr mg) {t1 t2 t3 : Tok} (g1 : mg "MOST_SEGMENT" = some (.int 12 t1)) (g2 : mg "SMALL" = some (.str cSmall t2)) (g3 : mg "DIGITS" = some (.str cDigits t3)) :
    Cal P w K mg base CX0 2 "is_segment" ["thing"] (spS K isSegS) := by
  refine cal0 F scIsSeg (fun _ _ _ _ _ _ us hl => match us, hl with | [_], _ => rfl) (fun vs H Q E h => ?_) (fun cdv A outer s H vs Q E hr h => ?_)
  · obtain ⟨t, s, rfl, _⟩ := h
    rfl
  · obtain ⟨x, o, rfl, ho, k⟩ := h
    refine ⟨_, pss_cons (ps_if (PW.pt (pw_or (pt_not (pt_val (pe_callB call_isi (by rfl) B.isi (by decide +kernel) (pa_cons (pv 0) (pa_cons (pe_bltn (v := .ty "str") (by rfl) B.str boot_str rfl) pa_nil)))))
        (pw_or1 (pt_not (pt_chain op_le op_le pe_int (pe_callB call_len_str (by rfl) B.len boot_len (pa_cons (pv 0) pa_nil)) (pe_glob (v := .int 12) (by rfl) g1 ⟨_, rfl⟩)))))) (pss_one (ps_ret pe_bl)) pss_nil)
      (pss_one (ps_ret (pe_and (pcal G hr (by rfl) pass0 (pa_cons (pv 0) (pa_cons (pe_op op_add_str (pe_op op_add_str (pe_glob (v := .str cSmall) (by rfl) g2 ⟨_, rfl⟩) (pe_glob (v := .str cDigits) (by rfl) g3 ⟨_, rfl⟩)) pe_str) pa_nil)))
        (pe_and (pe_cmpR op_ne (pv 0) pe_str (nomark _)) (pe_one (pe_cmpR op_notin_str pe_str (pv 0) rfl)))))), ?_⟩
    obtain ⟨ty, h1, h2⟩ := ho.isi
    refine ⟨_, rfl, _, _, _, _, _, rfl, .ty _, h1, h2, _, rfl, ?_⟩
    cases o with
    | none => exact k H (Same.refl H)
    | some z =>
      obtain ⟨rfl, hz⟩ := ho
      refine ⟨_, rfl, z, rfl, line_of hz, _, _, rfl, rfl, _, rfl, ?_⟩
      have key : ∀ b : Bool, isSegS z = b → ∀ H', Same H H' → Q (.bl b) H' := fun b e H' s1 => by
        rw [← e]
        exact k H' s1
      refine ite2 (fun c1 => ?_) (fun c1 => ?_)
      · have d1 : decide (1 ≤ z.length) = true := decide_eq_true (by have := of_decide_eq_true c1; omega)
        refine ⟨_, _, rfl, rfl, _, rfl, ?_⟩
        cases c2 : decide ((z.length : Int) ≤ 12) with
        | false =>
          refine iteT ?_
          refine key false ?_ H (Same.refl H)
          have d2 : decide (z.length ≤ 12) = false := decide_eq_false (fun h => by have := of_decide_eq_false c2; omega)
          unfold isSegS
          rw [d2, Bool.and_false]
          rfl
        | true =>
          have d2 : decide (z.length ≤ 12) = true := decide_eq_true (by have := of_decide_eq_true c2; omega)
          have eS : isSegS z = (hasOnly z cSeg && !decide (z = ".") && !hasDD z) := by
            unfold isSegS
            rw [d1, d2]
            rfl
          refine iteF ?_
          refine ⟨_, rfl, _, _, rfl, rfl, (by decide), _, _, rfl, rfl, (by decide), z, _, rfl, hz, fun H1 s1 => ?_⟩
          refine ⟨_, rfl, ?_⟩
          rw [show (cSmall ++ cDigits ++ ("._-" : Str)) = cSeg from rfl]
          cases c3 : hasOnly z cSeg with
          | false => exact key false (by rw [eS, c3]; rfl) H1 s1
          | true =>
            refine iteT ?_
            refine ⟨_, rfl, rfl, _, rfl, ?_⟩
            have e4 : (!decide (V.str z = V.str ".")) = !decide (z = ".") := by
              by_cases h : z = "."
              · rw [decide_eq_true h, decide_eq_true (congrArg V.str h)]
              · rw [decide_eq_false h, decide_eq_false (fun q => h (V.str.inj q))]
            rw [e4]
            cases c4 : decide (z = ".") with
            | true => exact key false (by rw [eS, c3, c4]; rfl) H1 s1
            | false =>
              refine iteT ?_
              refine ⟨_, rfl, _, z, rfl, rfl, ?_⟩
              exact key _ (by rw [eS, c3, c4]; rfl) H1 s1
      · have d1 : decide (1 ≤ z.length) = false := decide_eq_false (fun h => c1 (decide_eq_true (by omega)))
        refine ⟨_, rfl, ?_⟩
        refine iteT ?_
        exact key false (by unfold isSegS; rw [d1]; rfl) H (Same.refl H)

abbrev nIsPath : List Str := ["thing", "segments", "one"]
theorem scIsPath : FnScope nIsPath ["thing"] (defScope sIsPath) := ⟨rfl, rfl, rfl, by decide +kernel, rfl, by decide +kernel, by decide +kernel⟩
theorem ok_is_path (F : GF K mg "is_path" sIsPath) (G : Cal P w K mg base CX0 2 "is_segment" ["thing"] (spS K isSegS)) (B : Fr mg) {t1 : Tok} (g1 : mg "MOST_SEGMENTS" = some (.int 6 t1)) :
    Cal P w K mg base CX0 3 "is_path" ["thing"] (spS K isPathS) := by
  refine cal0 F scIsPath (fun _ _ _ _ _ _ us hl => match us, hl with | [_], _ => rfl) (fun vs H Q E h => ?_) (fun cdv A outer s H vs Q E hr h => ?_)
  · obtain ⟨t, s, rfl, _⟩ := h
    rfl
  · obtain ⟨x, o, rfl, ho, k⟩ := h
    refine ⟨_, pss_cons (ps_if (pt_not (pt_val (pe_callB call_isi (by rfl) B.isi (by decide +kernel) (pa_cons (pv 0) (pa_cons (pe_bltn (v := .ty "str") (by rfl) B.str boot_str rfl) pa_nil))))) (pss_one (ps_ret pe_bl)) pss_nil)
      (pss_cons (ps_set (i := 1) scIsPath.nd rfl (Or.inl rfl) (pe_split (pv 0) pe_str))
      (pss_one (ps_ret (pe_and (pe_cmpR op_le (pe_callB call_len_seq (by rfl) B.len boot_len (pa_cons (pv 1) pa_nil)) (pe_glob (v := .int 6) (by rfl) g1 ⟨_, rfl⟩) (nomark _))
        (pe_one (pe_callB (cr_all rfl) (by rfl) B.all (by decide +kernel) (pa_cons (pe_lc (own := [("one", 2)]) (g := gName 2) (tt := tYes) rfl scIsPath.nd (pi_list (pv 1)) (blkOk_by (N := nIsPath) (sc := defScope sIsPath) (by decide +kernel))
          (fun _ _ _ _ _ => pg_name (i := 2) scIsPath.nd rfl (Or.inl rfl)) (fun _ _ _ _ _ => pts_nil) (fun _ _ _ _ _ => pcal G hr (by rfl) pass0 (pa_cons (pv 2) pa_nil))) pa_nil))))))), ?_⟩
    obtain ⟨ty, h1, h2⟩ := ho.isi
    refine ⟨_, rfl, _, _, _, _, _, rfl, .ty _, h1, h2, _, rfl, ?_⟩
    cases o with
    | none => exact k H (Same.refl H)
    | some z =>
      obtain ⟨rfl, hz⟩ := ho
      refine ⟨_, rfl, ⟨_, rfl⟩, _, _, rfl, rfl, (by decide +kernel), Nat.le_trans (Nat.add_le_add_right hz 2) (by decide), fun p hp => ?_⟩
      have hc := split_count z
      refine ⟨_, rfl, p, _, rfl, .inl (SqL.of upd_same), _, _, rfl, rfl, _, rfl, ?_⟩
      rw [List.length_map]
      have e1 : decide (((Txt.split z "/").length : Int) ≤ 6) = decide ((Txt.split z "/").length ≤ 6) := by
        rw [decide_eq_decide]
        omega
      rw [e1]
      have s0 : Same H (upd H p (.lst ((Txt.split z "/").map V.str))) := Same.new hp
      have key : ∀ b : Bool, isPathS z = b → ∀ H', Same H H' → Q (.bl b) H' := fun b e H' s1 => by
        rw [← e]
        exact k H' s1
      cases c1 : decide ((Txt.split z "/").length ≤ 6) with
      | false => exact key false (by unfold isPathS; rw [c1]; rfl) _ s0
      | true =>
        refine iteT ?_
        refine ⟨_, rfl, p, rfl, ⟨_, SqL.of upd_same⟩, fun D hD => lc_list (K := K) (a := p) (xs := (Txt.split z "/").map V.str)
          (fun i H' => Same (upd H p (.lst ((Txt.split z "/").map V.str))) H' ∧ H' D = some (.lst ((((Txt.split z "/").take i).map isSegS).map V.bl)))
          ⟨Same.new hD, upd_same⟩ (fun i H' _ q => q.1.seq (SqL.of upd_same)) ?_ ?_⟩
        · rintro i x H1 hx ⟨s1, l1⟩
          obtain ⟨y, hy, rfl⟩ : ∃ y, (Txt.split z "/")[i]? = some y ∧ x = V.str y := by
            rw [List.getElem?_map] at hx
            cases e : (Txt.split z "/")[i]? with
            | none => rw [e] at hx; cases hx
            | some y => rw [e] at hx; exact ⟨y, rfl, (Option.some.inj hx).symm⟩
          refine ⟨rfl, _, rfl, _, some y, rfl, ⟨rfl, Nat.le_trans (split_piece (List.mem_of_getElem? hy)) hz⟩, fun H2 s2 => ⟨_, s2 _ _ l1, ?_, ?_, ?_⟩⟩
          · rw [List.length_map, List.length_map]
            exact Nat.lt_of_le_of_lt (Nat.le_trans (List.length_take_le' _ _) (Nat.le_trans hc (Nat.add_le_add_right hz 1))) (by decide)
          · exact (s1.trans s2).mut hD
          · rw [upd_same, List.take_add_one, hy]
            simp
        · rintro H1 ⟨s1, l1⟩
          refine ⟨D, _, rfl, SqL.of l1, ?_⟩
          refine key _ ?_ _ (s0.trans s1)
          unfold isPathS
          rw [c1, Bool.true_and, List.length_map, List.take_length, List.all_map]
          rfl

/-- is_text("x") -/
def spIsText : Sp := fun vs H Q _ => vs = [.str "x", .int 2000] ∧ ∀ H', Same H H' → Q (.bl true) H'
abbrev nIsText : List Str := ["thing", "most", "sign"]
theorem scIsText : FnScope nIsText ["thing", "most"] (defScope sIsText) := ⟨rfl, rfl, rfl, by decide +kernel, rfl, by decide +kernel, by decide +kernel⟩
theorem ok_is_text (F : GF K mg "is_text" sIsText [.int 2000]) (B : Fr mg) : Cal P w K mg base CX0 1 "is_text" ["thing", "most"] spIsText [.int 2000] := by
  obtain ⟨fd, FD⟩ := F.fd
  obtain ⟨ds, hd, hb⟩ := FD.binds1 (ps := ["thing", "most"]) 1 0 (by simp) rfl (fun T kV doc pm an cdv ct us its hu hi => match us, its, hu, hi with | [_], [_], _, _ => ⟨_, rfl, rfl⟩)
  refine ⟨F.mgx, FD.kp, fd, ds, FD.ok scIsText (fun vs H Q E h => ?_) fun cdv A outer s H vs Q E hr h => ?_, hb, hd⟩
  · obtain ⟨rfl, _⟩ := h
    rfl
  · obtain ⟨rfl, k⟩ := h
    suffices hh : ∃ t, PSs (cxOf CX0 P w K mg base nIsText "is_text" (defScope sIsText) (He.ga K "is_text") cdv A outer s H E).nox (defBody sIsText) t ∧ t { nx := fun _ H' => Q .non H', rt := Q } (L2.start nIsText [.str "x", .int 2000]) H by
      obtain ⟨t, p, q⟩ := hh
      exact ⟨t, p.nox, q⟩
    refine ⟨_, pss_cons (ps_if (PW.pt (pw_or (pt_not (pt_val (pe_callB call_isi (by rfl) B.isi (by decide +kernel) (pa_cons (pv 0) (pa_cons (pe_bltn (v := .ty "str") (by rfl) B.str boot_str rfl) pa_nil)))))
        (pw_or1 (pt_cmpR op_gt (pe_callB call_len_str (by rfl) B.len boot_len (pa_cons (pv 0) pa_nil)) (pv 1) (nomark _))))) (pss_one (ps_ret pe_bl)) pss_nil)
      (pss_one (ps_ret (pe_callB (cr_all rfl) (by rfl) B.all (by decide +kernel) (pa_cons (pe_lc (own := [("sign", 2)]) (g := gName 2) (tt := tYes) rfl scIsText.nd (pi_str (pv 0)) (blkOk_by (N := nIsText) (sc := defScope sIsText) (by decide +kernel))
        (fun _ _ _ _ _ => pg_name (i := 2) scIsText.nd rfl (Or.inl rfl)) (fun _ _ _ _ _ => pts_nil) (fun _ _ _ _ _ => pe_or (pe_chain op_le_str op_le_str pe_str (pv 2) pe_str) (pe_one (pe_cmpR op_eq (pv 2) pe_str (nomark _))))) pa_nil)))), ?_⟩
    refine ⟨_, rfl, _, _, _, _, _, rfl, .ty _, .base (.str _), kit_ty (show kitB "str" "str" = some true by decide +kernel), _, rfl, ?_⟩
    refine ⟨_, rfl, _, rfl, (by decide +kernel), _, rfl, _, _, rfl, rfl, _, rfl, ?_⟩
    refine ⟨_, rfl, _, rfl, fun D hD => lc_of (n := 1) (fun i H' => Same H H' ∧ H' D = some (.lst ((List.replicate i true).map V.bl)))
      ⟨Same.new hD, upd_same⟩ (fun i H' hi _ => hi) (fun H' _ => Nat.le_refl _) ?_ ?_⟩
    · rintro i x H1 H2 hi ⟨s1, l1⟩ ⟨rfl, c, hc, rfl⟩
      have i0 : i = 0 := by omega
      subst i0
      have hc' : c = 120 := by
        have : (Str.ofString "x").cps[0]? = some 120 := by decide +kernel
        rw [this] at hc
        exact (Option.some.inj hc).symm
      subst hc'
      refine ⟨rfl, _, rfl, _, _, rfl, rfl, _, rfl, ?_⟩
      refine ite2 (fun _ => ?_) (fun z => absurd (by decide +kernel) z)
      refine ⟨_, _, rfl, rfl, _, rfl, ?_⟩
      refine ite2 (fun _ => ?_) (fun z => absurd (by decide +kernel) z)
      exact ⟨_, l1, by decide, s1.mut hD, by rw [upd_same]; rfl⟩
    · rintro H1 ⟨s1, l1⟩
      exact ⟨D, _, rfl, SqL.of l1, k _ s1⟩
end
end FK

namespace FK
open PySem PySem.Spec PyProof.Rows L2
section
variable {P : Program} {w : World} {K : PySem.W.Frag} {mg : Str → Option Value} {base : Heap}
/-! ### above -/
def aboveS (z : Str) : List Str := (List.range ((Txt.split z "/").length - 1)).map fun i => Txt.join "/" ((Txt.split z "/").take (i + 1))
/-- a new list of texts -/
def spAbove : Sp := fun vs H Q _ => ∃ z : Str, vs = [.str z] ∧ z.length ≤ 4000 ∧ ∀ H' p, Same H H' → H p = none → H' p = some (.lst ((aboveS z).map V.str)) → Q (.ref p) H'
def rJoin (K : PySem.W.Frag) : V → List V → Hp → VK → Prop := fun x xs H Q => ∃ a p, ∃ ys : List Str, x = .str a ∧ xs = [.ref p] ∧ (SqL K H p (ys.map V.str) ∨ SqT K H p (ys.map V.str)) ∧
    (ys.map (·.length)).sum + ys.length * a.length ≤ 16777216 ∧ Q (.str (Txt.join a ys)) H
abbrev nAbove : List Str := ["path", "segments", "count"]
theorem scAbove : FnScope nAbove ["path"] (defScope sAbove) := ⟨rfl, rfl, rfl, by decide +kernel, rfl, by decide +kernel, by decide +kernel⟩
theorem sum_le {l : List Nat} {b : Nat} (h : ∀ x ∈ l, x ≤ b) : l.sum ≤ l.length * b := by
  induction l with
  | nil => simp
  | cons a r ih =>
    have h1 := h a (List.mem_cons_self)
    have h2 := ih fun x hx => h x (List.mem_cons_of_mem _ hx)
    simp only [List.sum_cons, List.length_cons, Nat.add_mul, Nat.one_mul]
    omega
theorem ok_above (F : GF K mg "above" sAbove) (B : Fr mg) : Cal P w K mg base CX0 1 "above" ["path"] spAbove := by
  refine cal0 F scAbove (fun _ _ _ _ _ _ us hl => match us, hl with | [_], _ => rfl) (fun vs H Q E h => ?_) (fun cdv A outer s H vs Q E hr h => ?_)
  · obtain ⟨z, rfl, _⟩ := h
    rfl
  · obtain ⟨z, rfl, hz, k⟩ := h
    refine ⟨_, pss_cons (ps_set (i := 1) scAbove.nd rfl (Or.inr rfl) (pe_split (pv 0) pe_str))
      (pss_one (ps_ret (pe_lc (own := [("count", 2)]) (g := gName 2) (tt := tYes) (te := tM1 (rJoin K) (tC (.str "/")) (tSl (rSlL K) (tVar 1) tNoPart (tPart (tVar 2)))) rfl scAbove.nd (pi_range2 (by rfl) B.range (pa_cons pe_int (pa_cons (pe_callB call_len_seq (by rfl) B.len boot_len (pa_cons (pv 1) pa_nil)) pa_nil))) (blkOk_by (N := nAbove) (sc := defScope sAbove) (by decide +kernel))
        (fun _ _ _ _ _ => pg_name (i := 2) scAbove.nd rfl (Or.inl rfl)) (fun _ _ _ _ _ => pts_nil) (fun _ _ _ _ _ => pe_join pe_str (pe_slice sl_list (pv 1) po_none (po_some (pv 2))))))), ?_⟩
    refine ⟨_, rfl, ⟨_, rfl⟩, _, _, rfl, rfl, (by decide +kernel), Nat.le_trans (Nat.add_le_add_right hz 2) (by decide), fun p hp => ?_⟩
    have hc := split_count z
    refine ⟨_, rfl, p, _, rfl, .inl (SqL.of upd_same), 1, _, rfl, ⟨by decide, by decide, ?_, ?_⟩, fun D hD => lc_range (lo := 1) (n := _)
      (fun i H' => Same (upd H p (.lst ((Txt.split z "/").map V.str))) H' ∧ H' D = some (.lst (((List.range i).map fun i => Txt.join "/" ((Txt.split z "/").take (i + 1))).map V.str)))
      ⟨Same.new hD, upd_same⟩ ?_ ?_⟩
    · exact Int.le_trans (by decide) (Int.natCast_nonneg _)
    · have hl : ((Txt.split z "/").map V.str).length ≤ 4001 := by rw [List.length_map]; omega
      exact Int.lt_of_le_of_lt (Int.ofNat_le.mpr hl) (by decide)
    all_goals have en : ((((Txt.split z "/").map V.str).length : Int) - 1).toNat = (Txt.split z "/").length - 1 := by rw [List.length_map]; omega
    · intro i H1 hi ⟨s1, l1⟩
      rw [en] at hi
      have hp1 : SqL K H1 p ((Txt.split z "/").map V.str) := s1.seq (SqL.of upd_same)
      refine ⟨rfl, ⟨_, rfl⟩, _, rfl, _, rfl, _, rfl, p, _, rfl, hp1, fun q hq => ?_⟩
      have hcut : cutV ((Txt.split z "/").map V.str) none (some (1 + (i : Int))) = ((Txt.split z "/").take (i + 1)).map V.str := by
        unfold cutV
        have e1 : HT.sIx ((Txt.split z "/").map V.str).length ((Txt.split z "/").map V.str).length (some (1 + (i : Int))) = i + 1 := by
          rw [show (1 + (i : Int)) = ((i + 1 : Nat) : Int) by omega, HT.sIx_nat, List.length_map]
          omega
        rw [e1]
        show List.take (i + 1 - 0) (List.drop 0 _) = _
        rw [List.drop_zero, Nat.sub_zero, List.map_take]
      refine ⟨_, q, (Txt.split z "/").take (i + 1), rfl, rfl, .inl (SqL.of (by rw [upd_same, hcut])), ?_, ?_⟩
      · have h1 : ((((Txt.split z "/").take (i + 1)).map (·.length)).sum) ≤ (((Txt.split z "/").take (i + 1)).map (·.length)).length * 4000 := sum_le fun x hx => by
          obtain ⟨y, hy, rfl⟩ := List.mem_map.mp hx
          exact Nat.le_trans (split_piece (List.mem_of_mem_take hy)) hz
        have h2 : ((Txt.split z "/").take (i + 1)).length ≤ 4001 := Nat.le_trans (List.length_take_le' _ _) (by omega)
        have h3 : (Str.ofString "/").length = 1 := by decide +kernel
        rw [List.length_map] at h1
        rw [h3]
        omega
      · refine ⟨_, (Same.new hq) _ _ l1, ?_, ?_, ?_⟩
        · rw [List.length_map, List.length_map, List.length_range]
          exact line_lt (by omega)
        · exact (s1.trans (Same.new hq)).mut hD
        · rw [upd_same, List.range_succ]
          simp
    · rintro H1 ⟨s1, l1⟩
      rw [en] at l1
      have nD : H D = none := Same.free (Same.new hp) hD
      exact k H1 D ((Same.new hp).trans s1) nD l1
end
end FK

/-! Forkhaul k08: f'{n:016x}', text.encode(). -/
namespace FK
open PySem PySem.Spec PyProof.Rows L2 Builtin Float

/-! ### sixteen hexadecimal digits -/
def hexDs (n : Nat) : List Nat := (Nat.toDigits 16 n).map fun c => c.toNat
def hex16 (n : Nat) : Str := ⟨(List.replicate (16 - (hexDs n).length) 48 ++ hexDs n).toArray⟩
def fSpec : FormatSpec := { fill := 48, align := 61, width := some 16, type := some 120 }
theorem fSpec_ok : parseFormatSpec (Str.ofString "016x").cps.toList "int" 62 = .ok fSpec := by rfl
theorem digs_ne (n : Nat) : (hexDs n).isEmpty = false := by
  have h := tDigits_len_ge 16 n
  unfold hexDs
  cases e : Nat.toDigits 16 n with
  | nil => rw [e] at h; simp at h
  | cons a r => rfl
theorem retStr_of {M : PySem.Model} {A : Around} {E : Value → Shared → Prop} {s : Shared} {y z : Str} {Q : Fin → Shared → Prop} (e : y = z) (h : wpAny M A (retStr z) Q E s) : wpAny M A (retStr y) Q E s := e ▸ h
theorem gives_hexG (a : Int) (t u : Tok) (h0 : 0 ≤ a) (spec : Str) (f : FormatSpec) (hp : parseFormatSpec spec.cps.toList "int" 62 = .ok f) (hne : (spec.length == 0) = false)
    (hasc : ((spec.cps.toList.drop 1).any (· ≥ 128) || (spec.cps.getD 0 0 ≥ 128 && !([60, 62, 61, 94] : List Nat).contains (spec.cps.getD 1 0))) = false)
    (hty : f.type.getD (if spec.cps.back? == some 0 then 0 else 100) = 120) (hpr : f.precision = none) (hz : f.noNeg0 = false) (hal : f.alt = false) (hw : f.width = some 16)
    (hgr : f.grouping = none) (hsg : f.sign = none) (hfi : f.fill = 48) (hali : f.align = 61) : Gives (Builtin.«int.__format__» ⟨[.int a t, .str spec u], []⟩) (.str (hex16 a.toNat)) := by
  intro prog w A R s hq
  unfold Builtin.«int.__format__»
  simp only [selfAndOne, noKeywords, Int.intOfSelf, asInt?, asStr?, List.isEmpty_nil, if_true, pure_bind, bind_pure, bind_assoc, hne, hasc, Bool.false_eq_true, if_false,
    show (Value.str spec u == Value.none) = false from rfl]
  refine wpAny_bind (wpAny_typeNameOf (T := "str") (typeIs_str _ _ _) (by decide) fun _ => ?_)
  refine wpAny_bind (wpAny_typeNameOfCut_int ?_)
  simp only [hp, hty]
  have en : a.natAbs = a.toNat := by omega
  have ed : decide (a < 0) = false := decide_eq_false (by omega)
  have key : intField' f (decide (a < 0)) [] (hexDs a.natAbs) [] 4 = hex16 a.toNat := by
    rw [ed, en, intField'_zero_nonneg f (hexDs a.toNat) 4 hgr hsg (digs_ne _) hfi hali, hw]
    rfl
  have kmap : ((Nat.toDigits 16 a.natAbs).map fun c => (if (120 : Nat) == 88 then c.toUpper else c).toNat) = hexDs a.natAbs := rfl
  rw [if_pos (by decide)]
  show wpAny _ _ (if _ then _ else _) _ _ _
  rw [if_neg (by simp [hpr])]
  show wpAny _ _ (if _ then _ else _) _ _ _
  rw [if_neg (by simp [hz])]
  show wpAny _ _ (if _ then _ else _) _ _ _
  rw [if_neg (by decide)]
  show wpAny _ _ (if _ then _ else _) _ _ _
  rw [if_neg (by decide)]
  show wpAny _ _ (if _ then _ else _) _ _ _
  rw [if_neg (by rw [hw]; decide)]
  refine retStr_of ?e ((Gives.of_eq (m := .str (hex16 a.toNat)) rfl) prog w A R s hq)
  case e =>
    rw [ed, hal, en, if_neg (by decide : ¬ ((16 : Nat) == 10) = true), if_neg (by decide : ¬ false = true)]
    have hde : (hexDs a.toNat).isEmpty = false := digs_ne _
    unfold hex16
    rw [show (List.map (fun c => (if ((120 : Nat) == 88) = true then c.toUpper else c).toNat) (Nat.toDigits 16 a.toNat)) = hexDs a.toNat from rfl]
    generalize hexDs a.toNat = ds at hde ⊢
    clear key kmap hp hty hz hpr hq
    obtain ⟨fill, align, sign, noNeg0, alt, width, grouping, precision, type⟩ := f
    dsimp only at hfi hali hw hgr hsg hal
    subst hfi hali hw hgr hsg hal
    conv => lhs; whnf
    simp only [hde, Bool.false_eq_true, if_false, if_true, show ((48 : Nat) == 48) = true by decide, show ((61 : Nat) == 61) = true by decide,
      Bool.and_self, List.length_nil, List.append_nil, List.nil_append, List.replicate_zero, List.length_append, List.length_replicate]
    rw [← List.append_assoc, List.replicate_append_replicate]
    congr 4
    omega
theorem gives_016x (a : Int) (t u : Tok) (h0 : 0 ≤ a) : Gives (Builtin.«int.__format__» ⟨[.int a t, .str (Str.ofString "016x") u], []⟩) (.str (hex16 a.toNat)) :=
  gives_hexG a t u h0 _ fSpec fSpec_ok (by decide +kernel) (by decide +kernel) rfl rfl rfl rfl rfl rfl rfl rfl rfl
section
variable {prog : Program} {w : World} {A : Around} {E : Value → Shared → Prop} {s : Shared}
theorem field_016x {a : Int} {t : Tok} {Q : Value → Shared → Prop} (h0 : 0 ≤ a) (hl : (hex16 a.toNat).length ≤ sizeLine) (h : Q (.str (hex16 a.toNat) (s.toks + 1)) { s with toks := s.toks + 1 + 1 }) :
    wpAny (model prog w) A (formatField (.int a t) (Str.ofString "016x")) Q E s :=
  wpAny_formatField_spec (by decide +kernel) (fun s' => typeIs_int s' a t) F.slot_int_format F.entry_int_format F.args_int_format_2 (fun u => gives_016x a t u h0) h (by decide +kernel) hl
end
/-- n below 2 ^ 61: sixteen signs, all of them hexadecimal -/
theorem digitsCore_len (b : Nat) (hb : 2 ≤ b) : ∀ (k fuel n : Nat) (ds : List Char), 1 ≤ k → n < b ^ k → (Nat.toDigitsCore b fuel n ds).length ≤ ds.length + k
  | 0, _, _, _, h, _ => absurd h (by omega)
  | k + 1, 0, n, ds, _, _ => by show ds.length ≤ _; omega
  | k + 1, fuel + 1, n, ds, _, h => by
    unfold Nat.toDigitsCore
    dsimp only
    split
    · simp
    · have hn : n / b ≠ 0 := by assumption
      have hk : 1 ≤ k := by
        rcases Nat.eq_zero_or_pos k with rfl | hk
        · rw [Nat.zero_add, Nat.pow_one] at h
          exact absurd (Nat.div_eq_of_lt h) hn
        · exact hk
      have h2 : n / b < b ^ k := Nat.div_lt_of_lt_mul (by rw [Nat.pow_succ, Nat.mul_comm] at h; exact h)
      have := digitsCore_len b hb k fuel (n / b) (Nat.digitChar (n % b) :: ds) hk h2
      simp only [List.length_cons] at this
      omega
def hexSign (c : Nat) : Prop := (48 ≤ c ∧ c ≤ 57) ∨ (97 ≤ c ∧ c ≤ 102)
theorem digit_hex : ∀ d, d < 16 → hexSign (Nat.digitChar d).toNat := by
  unfold hexSign
  decide
theorem digitsCore_hex : ∀ (fuel n : Nat) (ds : List Char), (∀ c ∈ ds, hexSign c.toNat) → ∀ c ∈ Nat.toDigitsCore 16 fuel n ds, hexSign c.toNat
  | 0, n, ds, h => h
  | fuel + 1, n, ds, h => by
    unfold Nat.toDigitsCore
    have hd : ∀ c ∈ Nat.digitChar (n % 16) :: ds, hexSign c.toNat := fun c hc => by
      rcases List.mem_cons.mp hc with rfl | hc
      · exact digit_hex _ (Nat.mod_lt _ (by decide))
      · exact h c hc
    dsimp only
    split
    · exact hd
    · exact digitsCore_hex fuel _ _ hd
theorem hexDs_len {n : Nat} (h : n < 2 ^ 64) : (hexDs n).length ≤ 16 := by
  unfold hexDs
  rw [List.length_map]
  have := digitsCore_len 16 (by decide) 16 (n + 1) n [] (by decide) (by rw [show (16 : Nat) ^ 16 = 2 ^ 64 by decide]; exact h)
  exact Nat.le_trans this (by simp)
theorem hexDs_hex (n : Nat) : ∀ c ∈ hexDs n, hexSign c := fun c hc => by
  unfold hexDs at hc
  obtain ⟨d, hd, rfl⟩ := List.mem_map.mp hc
  exact digitsCore_hex _ _ [] (fun _ z => nomatch z) d hd
theorem hex16_len {n : Nat} (h : n < 2 ^ 64) : (hex16 n).length = 16 := by
  have := hexDs_len h
  show (List.replicate _ _ ++ _).toArray.size = 16
  simp
  omega
theorem hex16_hex (n : Nat) : ∀ c ∈ (hex16 n).cps.toList, hexSign c := fun c hc => by
  unfold hex16 at hc
  rcases List.mem_append.mp (by simpa using hc : c ∈ List.replicate (16 - (hexDs n).length) 48 ++ hexDs n) with h | h
  · rw [(List.mem_replicate.mp h).2]
    exact .inl (by decide)
  · exact hexDs_hex n c h

/-! ### the rules -/
section
variable {X : Cx}
/-- f'{n:016x}' -/
def tHex (te : TE) : TE := fun σ H Q => te σ H fun x H1 => ∃ i : Int, x = .int i ∧ 0 ≤ i ∧ i < 2 ^ 62 ∧ Q (.str (hex16 i.toNat)) H1
theorem pe_hex {e : Expr} {te : TE} {j : Nat} {p1 p2 p3 : Pos} (he : PE X e te) : PE X (.FormattedValue e (-1) (some (.JoinedStr [.Constant (.str (Str.ofString "016x")) j p1] p2)) p3) (tHex te) := by
  refine ⟨fun pins s σ H Q I h => ?_⟩
  refine wpAny_FormattedValue_spec (thn (he.run pins s σ H _ I h) fun v s1 ⟨x, H1, I1, r1, i, e1, h0, h1, q⟩ => ?_)
  subst e1
  obtain ⟨t, rfl⟩ := _root_.id r1
  refine wpAny_JoinedStr_one (Calls.Constant_str ?_)
  refine ⟨_, _, rfl, field_016x h0 (by rw [hex16_len (by omega)]; decide) ?_⟩
  exact ⟨.str _, H1, (I1.tok _).tok _, ⟨_, rfl⟩, q⟩

/-- the codes of a text, as ints -/
def codesI (x : Str) : List Int := x.cps.toList.map fun c => ((c : Nat) : Int)
/-- text.encode(), the text ASCII -/
def rEncode : V → List V → Hp → VK → Prop := fun x xs H Q => ∃ a, x = .str a ∧ xs = [] ∧ (∀ c ∈ a.cps.toList, c < 128) ∧ a.length ≤ 100000 ∧ ∀ b : Array UInt8, b.toList.map (fun c => ((c.toNat : Nat) : Int)) = codesI a → Q (.byt b) H
theorem mt_encode : MtR X "str.encode" rEncode := by
  intro pins s σ H x xs v us Q I rx rs h
  obtain ⟨a, rfl, rfl, ha, hl, k⟩ := h
  obtain ⟨t, rfl⟩ := _root_.id rx
  cases rs
  refine PySem.W.KSb.encode_K (x := a) (t := t) ha (Nat.le_trans hl (by decide)) fun c t' kk e1 _ _ => ?_
  refine ⟨.byt c, H, I.tok _, ⟨_, rfl⟩, k c ?_⟩
  exact e1
theorem pe_encode {o : Expr} {to : TE} {apos pos : Pos} (ho : PE X o to) (hbase : attributeBase o (Str.ofString "encode") X.env (eval o X.env) = eval o X.env := by rfl) (hline : (apos.endLine == pos.line) = true := by rfl) :
    PE X (.Call (.Attribute o (Str.ofString "encode") apos) [] [] pos) (tM0 rEncode to) := pe_m0 F.slot_str_encode F.type_str_encode mt_encode ho hbase hline
end
end FK

/-! Forkhaul k08: == and != by an own __eq__, with both answers. -/
namespace FK
open PySem PySem.Spec PyProof.Rows L2

section
variable {prog : Program} {w : World} {A : Around} {E : Value → Shared → Prop} {s : Shared} {K : PySem.W.Frag} {x y C f : Addr} {ox : Obj} {od : Option Obj} {tb : Value}
theorem entry_objNe {Q : Fin → Shared → Prop} (hu : A.units < cLine) (X : K.In s.heap) (I : PySem.W.InstAt s.heap x ox C od) (hs : PySem.W.findIn K (.ref C) "__eq__" = some (some (.ref f))) (hf : PySem.W.isFn K (.ref f) = true)
    (h : wpAny (model prog w) A (call (.ref f) [.ref x, .ref y]) (fun v s' => ∃ b, v = .bool b ∧ Q (.done (.ret (.bool (!b)))) s') E s) :
    wpAny (model prog w) A (Builtin.«object.__ne__» ⟨[.ref x, .ref y], []⟩) Q E s := by
  unfold Builtin.«object.__ne__»
  repeat (first
    | with_reducible refine wpAny_cRoomFor hu ?_
    | (refine wpAny_bind (m := callSpecialIfBound? (.ref x) (Str.ofString "__eq__") [.ref y])
        (PySem.W.ifBound_K X I hs hf (wpAny_mono h (fun r s' hr => by
          obtain ⟨b, rfl, hq⟩ := hr
          repeat (first | exact hq | exact wpAny_pure hq | exact wpAny_truthy_bool hq | (refine wpAny_bind (m := truthy (.bool _)) (wpAny_truthy_bool ?_)) | wp_step)) fun _ _ e => e)))
    | wp_step)
theorem ifBound_objNe {M : Model} {args : List Value} {Q : Option Value → Shared → Prop} (X : K.In s.heap) (I : PySem.W.InstAt s.heap x ox C od) (hs : PySem.W.findIn K (.ref C) "__ne__" = some (some (.builtin "object.__ne__")))
    (h : wpAny M A (call (.builtin "object.__ne__") (.ref x :: args)) (fun v => Q (some v)) E s) : wpAny M A (callSpecialIfBound? (.ref x) "__ne__" args) Q E s := by
  simp only [callSpecialIfBound?, bindSpecialIfBound?]
  refine wpAny_holding (wpAny_bind (wpAny_bind (wpAny_bind (I.type.here ((PySem.W.looks_findIn X hs).here ?_)))))
  refine wpAny_bind (wpAny_askSetting (wpAny_ite ?_))
  have fin : wpAny M A (call (.builtin "object.__ne__") ([.ref x] ++ args) >>= fun v => pure (some v)) Q E s := wpAny_bind (wpAny_mono h (fun v s' h' => wpAny_pure h') fun _ _ h' => h')
  split
  · exact wpAny_bind (wpAny_of_eq (F.cmp_object.ne.bind _) (wpAny_pure (by exact fin)))
  · exact wpAny_tryCatch (wpAny_bind (wpAny_of_eq (F.cmp_object.ne.bind _) (wpAny_pure (by exact fin))))
theorem ne_own {Q : Value → Shared → Prop} (hu : A.units + 1 < cLine) (X : K.In s.heap) (I : PySem.W.InstAt s.heap x ox C od) (hm : PySem.W.mroIn K C (.type "object") = some true)
    (hne : PySem.W.findIn K (.ref C) "__ne__" = some (some (.builtin "object.__ne__"))) (hs : PySem.W.findIn K (.ref C) "__eq__" = some (some (.ref f))) (hf : PySem.W.isFn K (.ref f) = true)
    (hb : PySem.W.Looks (model prog w) s.heap (typeOf (.ref y)) tb) (hn : PySem.W.notFirst K C tb = true)
    (h : wpAny (model prog w) A.in1 (call (.ref f) [.ref x, .ref y]) (fun v s' => ∃ b, v = .bool b ∧ Q (.bool (!b)) s') E s) : wpAny (model prog w) A (richCompare .NotEq (.ref x) (.ref y)) Q E s := by
  have hu0 : A.units < cLine := Nat.lt_of_succ_lt hu
  have one : wpAny (model prog w) A (tryCompare (.ref x) "__ne__" (.ref y)) (fun r s' => ∃ b, r = some (.bool b) ∧ Q (.bool b) s') E s := by
    unfold tryCompare
    refine wpAny_bind (ifBound_objNe X I hne (wpAny_call (codeAny_call_builtin F.cmp_object.ne.plain F.cmpEntry_ne (PySem.W.check_slot F.cmpKind_ne F.cmpSplit_ne (I.type.andThen (PySem.W.looks_mroIn X hm)) (F.cmpArgs_ne _ _)
      (entry_objNe (A := A.in1) hu X I hs hf (wpAny_mono h (fun v s' hv => ?_) fun _ _ e => e))))))
    obtain ⟨b, rfl, hq⟩ := hv
    first | exact ⟨b, rfl, wpAny_pure ⟨_, rfl, hq⟩⟩ | exact ⟨b, rfl, ⟨_, rfl, hq⟩⟩ | exact ⟨b, rfl, wpAny_pure (wpAny_pure ⟨_, rfl, hq⟩)⟩
  simp only [richCompare, cmpInfo_NotEq, oneThing_ref]
  refine wpAny_holding (wpAny_bind (wpAny_cRoomFor hu0 ?_))
  refine wpAny_bind (I.type.here (wpAny_bind (hb.here ?_)))
  split
  · rename_i q
    have e : PySem.W.subIn K tb (.ref C) = some false := by
      rcases Bool.or_eq_true_iff.mp hn with e | e
      · rw [beq_iff_eq.mp e] at q; simp at q
      · exact beq_iff_eq.mp e
    refine wpAny_bind ((PySem.W.looks_subIn X e).here ?_)
    simp only [Bool.false_eq_true, if_false]
    refine wpAny_bind (wpAny_mono one (fun r s' z => ?_) fun _ _ e => e)
    obtain ⟨v, rfl, hq⟩ := z
    exact wpAny_pure hq
  · refine wpAny_bind (wpAny_pure ?_)
    simp only [Bool.false_eq_true, if_false]
    refine wpAny_bind (wpAny_mono one (fun r s' z => ?_) fun _ _ e => e)
    obtain ⟨v, rfl, hq⟩ := z
    exact wpAny_pure hq
end

/-! ### the rules of the layer -/
/-- what == and != ask of the class at C: its own __eq__ is the def at f -/
structure EqC (K : PySem.W.Frag) (C f : Addr) : Prop where
  eq : PySem.W.findIn K (.ref C) "__eq__" = some (some (.ref f))
  fn : PySem.W.isFn K (.ref f) = true
  ne : PySem.W.findIn K (.ref C) "__ne__" = some (some (.builtin "object.__ne__"))
  ob : PySem.W.mroIn K C (.type "object") = some true
section
variable {X : Cx} {CX : CXT} {n : Nat} {C f : Addr} {fd : FuncData} {ps : List Str} {sp : Sp} {E : XK}
/-- a run of the def from anywhere below the body -/
theorem run_at {A : Around} {pins : List (Addr × Obj)} {σ : L2.St} {H : Hp} {s : Shared} {Q : VK} {a b : Addr} (F : FnOk X.prog X.w X.K X.mg X.base CX n f fd ps sp) (hb : Binds X.K fd ps []) (hx : Passes CX X E) (hr : Room n A) (hfr : A.frames = X.A.frames)
    (I : Inv X pins σ H s) (h : sp [.ref a, .ref b] H Q E) : wpAny (model X.prog X.w) A (call (.ref f) [.ref a, .ref b]) (EP X pins σ Q) X.xe s := by
  have e0 : Env0 X.prog X.w X.K X.mg X.base A X.stack s H := by
    have e := I.env0
    exact ⟨by rw [hfr]; exact e.frames, e.mod, e.bs, e.bsz, e.funs, e.frf, e.hok, e.bare⟩
  have hl := F.len _ _ _ _ h
  have r2 : Vals [V.ref a, V.ref b] [Value.ref a, Value.ref b] := .cons rfl (.cons rfl .nil)
  refine wpAny_call (codeAny_mono (F.run A X.stack s H ⟨[.ref a, .ref b], []⟩ [.ref a, .ref b] [.ref a, .ref b] _ E hr e0 (by
    have := hb s [.ref a, .ref b] I.kIn (by simpa using hl)
    simpa using this) r2 h) fun r s' hq => ?_)
  cases r with
  | error e => exact hx pins σ H s e s' I hq
  | ok fl =>
    cases fl with
    | ret w => exact I.after hq
    | next => exact False.elim hq
    | brk => exact False.elim hq
    | cont => exact False.elim hq
/-- a == b, both instances, a's class with an own __eq__ -/
def rEqOwn (K : PySem.W.Frag) (C : Addr) (sp : Sp) (E : XK) : R2 := fun x y H Q => ∃ a b C' dx dy fs gs, x = .ref a ∧ y = .ref b ∧ H a = some (.ins C dx fs) ∧ H b = some (.ins C' dy gs) ∧ PySem.W.notFirst K C (.ref C') = true ∧
  sp [.ref a, .ref b] H (fun v H' => ∃ k, v = .bl k ∧ Q (.bl k) H') E
def rNeOwn (K : PySem.W.Frag) (C : Addr) (sp : Sp) (E : XK) : R2 := fun x y H Q => ∃ a b C' dx dy fs gs, x = .ref a ∧ y = .ref b ∧ H a = some (.ins C dx fs) ∧ H b = some (.ins C' dy gs) ∧ PySem.W.notFirst K C (.ref C') = true ∧
  sp [.ref a, .ref b] H (fun v H' => ∃ k, v = .bl k ∧ Q (.bl (!k)) H') E
theorem op_eqOwn (F : FnOk X.prog X.w X.K X.mg X.base CX n f fd ps sp) (hb : Binds X.K fd ps []) (hx : Passes CX X E) (hr : Room n X.A) (c : EqC X.K C f) : OpR X (compareOp .Eq) (rEqOwn X.K C sp E) := by
  intro pins s σ H x y v u Q I rx ry q
  obtain ⟨a, b, C', dx, dy, fs, gs, rfl, rfl, ha, hb', hn, hq⟩ := q
  cases rx
  cases ry
  obtain ⟨mA, J, _⟩ := ins_get I.hok ha
  obtain ⟨mB, J', _⟩ := ins_get I.hok hb'
  obtain ⟨od, J, _⟩ := J.look
  obtain ⟨od', J', _⟩ := J'.look
  obtain ⟨m, hF⟩ := I.fr
  unfold compareOp
  refine PySem.W.cmp_K (op := .Eq) (tb := .ref C') hr.units0 hF I.ok.mod.kin J J'.type hn c.eq c.fn ?_
  refine wpAny_mono (run_at F hb hx hr rfl I hq) (fun v s' z => ?_) fun _ _ e => e
  obtain ⟨z, H', I', rz, k, rfl, qk⟩ := z
  obtain rfl : v = Value.bool k := rz
  exact ⟨.bl k, H', I', rfl, qk⟩
theorem op_neOwn (F : FnOk X.prog X.w X.K X.mg X.base CX n f fd ps sp) (hb : Binds X.K fd ps []) (hx : Passes CX X E) (hr : Room (n + 1) X.A) (c : EqC X.K C f) : OpR X (compareOp .NotEq) (rNeOwn X.K C sp E) := by
  intro pins s σ H x y v u Q I rx ry q
  obtain ⟨a, b, C', dx, dy, fs, gs, rfl, rfl, ha, hb', hn, hq⟩ := q
  cases rx
  cases ry
  obtain ⟨mA, J, _⟩ := ins_get I.hok ha
  obtain ⟨mB, J', _⟩ := ins_get I.hok hb'
  obtain ⟨od, J, _⟩ := J.look
  obtain ⟨od', J', _⟩ := J'.look
  unfold compareOp
  refine ne_own (hu_of hr) I.kIn J c.ob c.ne c.eq c.fn J'.type hn ?_
  refine wpAny_mono (run_at F hb hx hr.in1 rfl I hq) (fun v s' z => ?_) fun _ _ e => e
  obtain ⟨z, H', I', rz, k, rfl, qk⟩ := z
  obtain rfl : v = Value.bool k := rz
  exact ⟨k, rfl, .bl (!k), H', I', rfl, qk⟩
end
end FK

/-! Forkhaul k08: own exceptions whose __init__ says super().__init__(x). -/
namespace PySem
namespace FKX
open PySem.W PySem.Calls PyProof.Rows PySem.HandSPX Builtin Builtin.ObjectAttr

/-! ### the built-in bases, ValueError and KeyError: what making and __init__ ask of them -/
structure InitF (cls initId : String) : Prop where
  star : (cls != "*") = true
  kind : builtinKind initId = some Manifest.AttrKind.slot
  row : Manifest.signature? initId = some ⟨.positional, "*", cls, .self, [⟨"args", .varPos, false⟩]⟩
  plain : plainId initId = true
  entry : entryFor table initId = some Builtin.«BaseException.__init__»
  kxs : KxsFacts cls initId
theorem initF_VE : InitF "ValueError" "ValueError.__init__" := ⟨F.excBase_ValueError.noStar, F.excBase_ValueError.initKind, F.excBase_ValueError.initRow, F.excBase_ValueError.init.plain, F.excBase_ValueError.initEntry, kxs_ValueError⟩
theorem initF_KE : InitF "KeyError" "KeyError.__init__" where
  star := by decide +kernel
  kind := by kernel_rfl
  row := by kernel_rfl
  plain := by decide +kernel
  entry := entryFor_alias (id' := "BaseException.__init__") (by rw [fastTable_eq_tree]; kernel_rfl) (by first | rfl | decide +kernel) (by decide +kernel) (by rw [fastTable_eq_tree]; kernel_rfl)
  kxs := ⟨by show builtinType _ = _; rw [builtinType_eq_fast]; kernel_rfl, by first | kernel_rfl | rfl⟩
/-- where the classes behind C's own stand: the maker's owner, no special exception -/
structure NewOk (bm : List Value) (B : String) : Prop where
  has : bm.contains (.type B) = true
  noA : bm.contains (.type "AttributeError") = false
  noN : bm.contains (.type "NameError") = false

section
variable {M : Model} {A : Around} {E : Value → Shared → Prop} {h : Heap} {g : Array GenState} {d : Drawn} {t : Nat} {os : OsState}
variable {nm q : Str} {C N : Addr} {bs bm bmB : List Value} {hdct : Bool} {sn : List Str} {sub : List Value} {ab : Bool} {col : Option Bool} {dd : Option Addr} {k0 k1 k2 k3 k5 : Option Value} {B newId initId : String}
theorem ck_new (F : ExcBaseFacts B newId initId bmB) (b : NewOk bm B) {rest : List Value} {Q : Unit → Shared → Prop}
    (hC : h.get? C = some (excClassObj nm q C N bs bm hdct sn sub ab col dd k0 k1 k2 k3 k5 newId)) (hq : Q () ⟨h, g, d, t, os⟩) : wpAny M A (checkBuiltinCall newId ⟨.ref C :: rest, []⟩) Q E ⟨h, g, d, t, os⟩ := by
  have hc : (Value.ref C :: bm).contains (.type B) = true := by rw [List.contains_cons, b.has, Bool.or_true]
  have hst := F.noStar
  simp only [checkBuiltinCall, F.newKind, F.newSplit, F.newRow]
  repeat (first | refine wpAny_loadPart_at hC ?_ | (refine wpAny_isSubtype_exc hC ?_; rw [hc]) | refine wpAny_staticBase_exc hC ?_ | refine wpAny_madeBy_exc hC ?_ | simp only [bne_self_eq_false, Bool.false_eq_true, if_false] | wp_step)
  exact hq
theorem ck_bound (F : InitF B initId) {e : Addr} {oe : Obj} {rest : List Value} {Q : Unit → Shared → Prop}
    (hC : h.get? C = some (excClassObj nm q C N bs bm hdct sn sub ab col dd k0 k1 k2 k3 k5 newId)) (he : h.get? e = some oe) (hcls : oe.cls = .ref C) (hq : Q () ⟨h, g, d, t, os⟩) :
    wpAny M A (checkBoundCall initId ⟨.ref e :: rest, []⟩) Q E ⟨h, g, d, t, os⟩ := by
  have hst := F.star
  simp only [checkBoundCall, F.kind, F.row]
  repeat (first | (with_reducible refine wpAny_loadPart_at he ?_; rw [hcls]) | with_reducible refine wpAny_loadPart_at hC ?_ | wp_step)
  refine wpAny_onRaise ?_
  have e1 : ∀ (a b : String) (n : Nat), Bind.check ⟨.positional, "*", B, .self, [⟨"args", .varPos, false⟩]⟩ a b n (List.map (fun x => x.fst) ({ pos := Value.ref e :: rest } : Args).kw) = pure () := fun a b n => check_star_args _ _ _ _ _ _
  rw [e1]
  exact wpAny_pure hq
end
section
variable {prog : Program} {w : World} {A : Around} {E : Value → Shared → Prop} {R : Result → Shared → Prop} {h : Heap} {g : Array GenState} {d : Drawn} {t : Nat} {os : OsState}
variable {nm q : Str} {C N : Addr} {bs bm bmB : List Value} {hdct : Bool} {sn : List Str} {sub : List Value} {ab : Bool} {col : Option Bool} {dd : Option Addr} {k0 k1 k2 k3 k5 : Option Value} {B newId initId : String}
theorem mk_new (F : ExcBaseFacts B newId initId bmB) (b : NewOk bm B) {rest : List Value}
    (hC : h.get? C = some (excClassObj nm q C N bs bm hdct sn sub ab col dd k0 k1 k2 k3 k5 newId))
    (hq : R (.ok (.ret (.ref (h.objs.size + 1)))) ⟨(h.push (kdv_tup rest)).push (excO C h.objs.size), g, d, t, os⟩) (hrest : rest.length ≤ sizeLine) :
    codeAny (model prog w) A (.builtin newId ⟨.ref C :: rest, []⟩) R ⟨h, g, d, t, os⟩ := by
  have hends := F.ends
  have cB : (Value.ref C :: bm).contains (.type B) = true := by rw [List.contains_cons, b.has, Bool.or_true]
  have cA : (Value.ref C :: bm).contains (.type "AttributeError") = false := by rw [List.contains_cons, b.noA]; rfl
  have cN : (Value.ref C :: bm).contains (.type "NameError") = false := by rw [List.contains_cons, b.noN]; rfl
  refine codeAny_builtinAt F.entry ?_
  unfold Builtin.«BaseException.__new__»
  refine wpAt_bind ?_
  show wpAt _ _ _ (stack >>= _) _ _ _
  refine wpAt_bind (wpAt_stack fun p below => wpAt_of_wpAny ?_)
  wp_walk
  refine wpAt_of_wpAny ?_
  rw [F.owner]
  repeat (first | with_reducible refine wpAny_madeHere_exc F.canon hC ?_ | with_reducible refine wpAny_loadPart_at hC ?_ | (with_reducible refine wpAny_isSubtype_exc hC ?_; first | rw [cB] | rw [cA] | rw [cN]) | wp_step)
  show R _ _
  rw [Heap.size_push]
  exact hq
theorem mk_type (F : ExcBaseFacts B newId initId bmB) (b : NewOk bm B) {rest : List Value} {fI : Addr} {Q : Fin → Shared → Prop}
    (hC : h.get? C = some (excClassObj nm q C N bs bm hdct sn sub ab col dd k0 k1 k2 k3 k5 newId))
    (hi : Looks (model prog w) h (typeLookup (.ref C) "__init__") (some (.ref fI))) (hb : ∀ self, Looks (model prog w) h (bindSpecial (.ref fI) self) (.ref fI, [self])) (hrest : rest.length ≤ sizeLine)
    (hq : codeAny (model prog w) A (.call (.ref fI) ⟨.ref (h.objs.size + 1) :: rest, []⟩)
      (fun r s' => match r with | .ok (.ret v) => v = .none ∧ Q (.done (.ret (.ref (h.objs.size + 1)))) s' | .ok _ => False | .error e => E e s')
      ⟨(h.push (kdv_tup rest)).push (excO C h.objs.size), g, d, t, os⟩) :
    wpAny (model prog w) A (Builtin.«type.__call__» ⟨.ref C :: rest, []⟩) Q E ⟨h, g, d, t, os⟩ := by
  repeat (first | with_reducible refine wpAny_loadPart_at hC ?_ | with_reducible refine wpAny_madeBy_exc hC ?_ | wp_step)
  refine codeAny_call_builtin_code (Code.quiet_builtin _ F.quiet) (ck_new F b hC ?_)
  refine mk_new F b hC ?_ hrest
  show wpAny _ _ _ _ _ _
  have k : ∀ c o, h.get? c = some o → ((h.push (kdv_tup rest)).push (excO C h.objs.size)).get? c = some o := fun c o e => Heap.get?_push_of_some _ (Heap.get?_push_of_some _ e)
  have hC1 := k _ _ hC
  have hget : ((h.push (kdv_tup rest)).push (excO C h.objs.size)).get? (h.objs.size + 1) = some (excO C h.objs.size) := by heap_get
  have hcC : (Value.ref C :: bm).contains (.ref C) = true := by simp
  have i1 := hi.keeps k
  have b1 := (hb (.ref (h.objs.size + 1))).keeps k
  unfold isInstance
  repeat (first | with_reducible refine wpAny_loadPart_at hget ?_ | (with_reducible refine wpAny_isSubtype_exc hC1 ?_; rw [hcC]) | wp_step)
  show wpAny _ _ (typeLookup (.ref C) _) _ _ _
  refine i1.at ?_
  refine wpAny_holding (wpAny_bind (b1.at ?_))
  refine wpAny_bind (wpAny_call (codeAny_mono hq fun r s' z => ?_))
  rcases r with e | (v | _ | _ | _) <;> first | exact z | exact z.elim | skip
  obtain ⟨rfl, z⟩ := z
  first
    | exact wpAny_pure (wpAny_pure z)
    | (wp_walk; exact z)
theorem mk_call (F : ExcBaseFacts B newId initId bmB) (b : NewOk bm B) {rest : List Value} {fI : Addr}
    (hC : h.get? C = some (excClassObj nm q C N bs bm hdct sn sub ab col dd k0 k1 k2 k3 k5 newId))
    (hi : Looks (model prog w) h (typeLookup (.ref C) "__init__") (some (.ref fI))) (hb : ∀ self, Looks (model prog w) h (bindSpecial (.ref fI) self) (.ref fI, [self])) (hrest : rest.length ≤ sizeLine)
    (hq : codeAny (model prog w) (A.under (.builtin "type.__call__" ⟨.ref C :: rest, []⟩)) (.call (.ref fI) ⟨.ref (h.objs.size + 1) :: rest, []⟩) (InitBack (h.objs.size + 1) R)
      ⟨(h.push (kdv_tup rest)).push (excO C h.objs.size), g, d, t, os⟩) :
    codeAny (model prog w) A (.call (.ref C) ⟨rest, []⟩) R ⟨h, g, d, t, os⟩ := by
  have f1 := tc_lookup
  have f2 := tc_bind (.ref C)
  have hTy : (⟨h, g, d, t, os⟩ : Shared).TypeIs (.ref C) "type" := ⟨_, hC, rfl⟩
  refine codeAny_of_tree ?_
  show wpAny _ _ (callAny (.ref C) _) _ _ _
  repeat (any_goals (first | assumption | with_reducible refine wpAny_loadPart_at hC ?_ | wp_step))
  refine ⟨rfl, ?_⟩
  refine codeAny_call_builtin_at (Code.quiet_builtin _ (by decide +kernel)) entry_typeCall (wpAny_check_type_call_sub hC (mk_type F b hC hi hb hrest ?_))
  refine codeAny_mono hq fun r s' z => ?_
  rcases r with e | (v | _ | _ | _) <;> exact z
/-- super().__init__(..) called: the args are laid anew -/
theorem call_mw (FI : InitF B initId) {u e t0 : Addr} {dv : Option Addr} {rest : List Value} {Q : Value → Shared → Prop}
    (hC : h.get? C = some (excClassObj nm q C N bs bm hdct sn sub ab col dd k0 k1 k2 k3 k5 newId)) (he : h.get? e = some (excObj C t0 dv .none)) (hu : h.get? u = some (kxs_mw initId e)) (hrest : rest.length ≤ sizeLine)
    (hq : ∀ h' t1, (∀ b o, b ≠ e → h.get? b = some o → h'.get? b = some o) → h'.get? e = some (excObj C t1 dv .none) → Q .none ⟨h', g, d, t, os⟩) :
    wpAny (model prog w) A (call (.ref u) rest) Q E ⟨h, g, d, t, os⟩ := by
  refine wpAny_call (codeAny_of_tree ?_)
  show wpAny _ A.in1 (callAny (.ref u) ⟨rest, []⟩) _ _ _
  simp only [callAny]
  refine wpAny_bind (wpAny_load hu ?_)
  simp only [kxs_mw, show (Value.type "method-wrapper" == Value.type "method" || Value.type "method-wrapper" == Value.type "builtin_function_or_method" || Value.type "method-wrapper" == Value.type "method-wrapper") = true by decide, if_true]
  refine KFB.if_so (by decide) ?_
  refine wpAny_bind (ck_bound FI hC he rfl ?_)
  refine wpAny_bind (wpAny_pure (wpAny_pure ?_))
  refine ⟨plainId_quiet FI.plain _, codeAny_builtin FI.entry ?_⟩
  exact exc_init_tree (cls := .ref C) (t0 := t0) (dv := dv) (c2 := .none) (c3 := .none) (b4 := .bool false) he hrest fun h' k e' t' => hq h' _ k e'
end

/-! ### what stands around -/
structure Modx (K : Frag) (mg : Str → Option Value) (h : Heap) : Prop where
  kin : K.In h
  glob : h.Ns mainGlobals mg
  blt : ∃ mb, h.Ns builtinsNs mb ∧ ∀ x : Str, x ≠ "__name__" → mb x = bootBuiltins x
  nolimit : h.NoLimit
/-- the def at f (an __init__ that says super()), of the class at D -/
structure Sup (K : Frag) (P : Program) (f D : Addr) (qual : Str) (st : Stmt) (dV : Value) : Prop where
  ex : ∃ (oc : Value) (od : Option Addr) (kV doc pm : Value) (an : Option Addr) (cda : Addr) (ct : Value) (cc : Addr) (osl : Array (Option Value)) (ccl : Value) (cdd : Option Addr) (vs : Array Value) (ccs : Array (Option Value)) (tf : Tok)
      (cl : Value) (cld : Option Addr) (csl : Array (Option Value)) (cdD : ClassData),
    K.lookup f = some ⟨oc, od, .func (ksFn "__init__" qual (L2.defArgs st) (L2.defBody st) (L2.defScope st) dV kV doc pm an (.ref cda) ct cc), osl⟩ ∧ codeIn K (.ref cda) qual = true ∧
    K.lookup cda = some ⟨ccl, cdd, .fields vs, ccs⟩ ∧ vs[2]? = some (.str P.main.file tf) ∧ K.lookup cc = some ⟨cl, cld, .cell (some (.ref D)), csl⟩ ∧ clsIn K D = some cdD
  ty : typeIn K (.ref f) = some (.type "function")
/-- the class at C of an exception that is made: its data, over the built-in B -/
structure ExC (K : Frag) (C : Addr) (B newId initId : String) (bmB : List Value) : Prop where
  cls : ∃ nm q N bs bm sn sub ab col dd k0 k1 k2 k3 k5, K.lookup C = some (excClassObj nm q C N bs bm true sn sub ab col dd k0 k1 k2 k3 k5 newId) ∧ (∀ X : String, bm.contains (.type X) = bmB.contains (.type X)) ∧ excTail bmB bm = true
  sa : findIn K (.ref C) "__setattr__" = some (some (.builtin "object.__setattr__"))
  B_ : subIn K (.ref C) (.type B) = some true
  kC : keepIn K (.ref C) = true
  exC : subIn K (.ref C) (.type "BaseException") = some true
  tyC : typeIn K (.ref C) = some (.type "type")
  hdC : hasDictIn K C = true

/-! ### self.x = v on an exception that has no dict yet -/
def CanStore (K : Frag) (C : Addr) : Prop :=
  ∀ (prog : Program) (w : World) (A : Around) (R : Result → Shared → Prop) (hp : Heap) (g : Array GenState) (d : Drawn) (t : Nat) (os : OsState) (name : Str) (tk : Tok) (v : Value) (x : Addr) (fv : Array Value),
    K.In hp → hp.get? x = some { cls := .ref C, data := .fields fv } → findIn K (.ref C) name = some none →
    (∀ h' tk' dx, (∀ b o, b ≠ x → hp.get? b = some o → h'.get? b = some o) → hp.objs.size ≤ dx → dx ≠ x → h'.get? x = some { cls := .ref C, dict := some dx, data := .fields fv } →
      h'.Ns1 dx (fun y => if y = name then some v else none) → R (.ok (.ret .none)) ⟨h', g, d, tk', os⟩) →
    codeAny (model prog w) A (.call (.builtin "object.__setattr__") ⟨[.ref x, .str name tk, v], []⟩) R ⟨hp, g, d, t, os⟩
theorem canStore_VE {K : Frag} {C : Addr} {cd : ClassData} (hcd : clsIn K C = some cd) (hm : refsVE cd.mro = true) (hh : cd.hasDict = true) : CanStore K C :=
  fun _ _ _ _ _ _ _ _ _ _ _ _ _ _ X hx ha hq => exc_osa X hx hcd hm hh ha hq
theorem ke_pass (self : Value) : refuseLoop self "__setattr__" keTail = pure () := by kernel_rfl
theorem canStore_KE {K : Frag} {C : Addr} {cd : ClassData} (hcd : clsIn K C = some cd) (hm : cd.mro = .ref C :: keTail) (hh : cd.hasDict = true) : CanStore K C := by
  intro prog w A R hp g d t os name tk v x fv X hx ha hq
  have I : W.InstAt hp x { cls := .ref C, data := .fields fv } C none := ⟨hx, rfl, rfl, trivial⟩
  have SF := F.store_object
  have hxs : x ≠ hp.objs.size := Nat.ne_of_lt (Heap.lt_size hx)
  have hob : W.mroIn K C (.type "object") = some true := by
    unfold W.mroIn
    rw [hcd, Option.bind_some, hm, if_neg (by simp)]
    simp
  have sub : W.Looks (model prog w) hp (isInstance (.ref x) (.type "object")) true := I.type.andThen (W.looks_mroIn X hob)
  refine codeAny_call_builtin SF.slot.plain SF.entry (@W.check_slot (model prog w) _ _ ⟨hp, g, d, t, os⟩ "object.__setattr__" "object" "__setattr__" (.ref x) [.str name tk, v] [] _ SF.kind SF.split sub (SF.args (.ref x) (.str name tk) v) ?_)
  have hmr : W.Looks (model prog w) hp (mroOf (.ref C)) cd.mro := (W.looks_clsIn X hcd).andThen .now
  have L3 : W.Looks (model prog w) hp (storeTaker? none) none := .now
  have hcls : W.Looks (model prog w) hp (classData C) cd := W.looks_clsIn X hcd
  rw [W.osa_eq, refuse_eq]
  refine wpAny_bind (wpAny_bind (I.type.at (wpAny_bind (hmr.at ?_))))
  rw [hm, refuseLoop_ref, ke_pass]
  refine wpAny_pure (wpAny_bind (I.type.at (wpAny_bind ((W.looks_findIn X ha).at (wpAny_bind (L3.at ?_))))))
  show wpAny _ _ (storeInOwnDict (.ref x) (.ref C) (.str name tk) name v false) _ _ _
  obtain ⟨nm, bs, mro, ns, qn, hd, sn, sb, ab, col, del⟩ := cd
  dsimp only at hh
  subst hh
  unfold storeInOwnDict ownDictForStores
  repeat (first | with_reducible refine store_in_new ?_ ?_ | with_reducible refine wpAny_loadPart_at hx ?_ | with_reducible refine hcls.at ?_ | wp_step)
  · exact ⟨_, #[], _, (Heap.get?_update_ne _ _ _ _ hxs.symm).trans (Heap.get?_push_at rfl rfl), rfl, fun e he => absurd he (by simp), fun _ => rfl⟩
  · intro h' tk' hn' hs
    have hx₁ : (hp.push { cls := .type "dict", data := .dict #[] }).get? x = some { cls := .ref C, data := .fields fv } := Heap.get?_push_of_some _ hx
    refine hq h' tk' hp.objs.size (fun b o hb ho => ?_) (Nat.le_refl _) hxs.symm ?_ hn'
    · exact (hs.2 b (Nat.ne_of_lt (Heap.lt_size ho))).trans ((Heap.get?_update_ne _ _ _ _ hb).trans (Heap.get?_push_of_some _ ho))
    · exact (hs.2 x hxs).trans (Heap.get?_update_self _ hx₁ rfl)

/-! ### super() -/
section
variable {prog : Program} {w : World} {A : Around} {E : Value → Shared → Prop} {s : Shared} {K : Frag} {mg : Str → Option Value} {base : Heap} {L x C D f cc cda so : Addr} {m : Str → Option Value} {ox : Obj} {odx : Option Obj}
theorem super_node {body : List Stmt} {q : Str} {scope : Scope} {p0 p1 : Pos} {attr : Str} {whole : Sem Value} {fd : FuncData} {ar : Arg} {vs : Array Value} {file : Str} {tf : Tok} {oc ccl cl : Value} {od cdd cld : Option Addr} {osl ccs csl : Array (Option Value)} {cdD : ClassData} {Q : Value → Shared → Prop}
    (hn : s.heap.Ns L m) (X : K.In s.heap) (G : s.heap.Ns mainGlobals mg) (Bl : ∃ mb, s.heap.Ns builtinsNs mb ∧ ∀ x : Str, x ≠ "__name__" → mb x = bootBuiltins x)
    (hf : K.lookup f = some ⟨oc, od, .func fd, osl⟩) (hp : (fd.params.posonlyargs ++ fd.params.args).head? = some ar) (hv : m ar.arg = some (.ref x)) (I : InstAt s.heap x ox C odx)
    (hcode : K.lookup cda = some ⟨ccl, cdd, .fields vs, ccs⟩) (hvs : vs[2]? = some (.str file tf)) (hfile : ((prog.main.file : Str) == file) = true)
    (hcell : K.lookup cc = some ⟨cl, cld, .cell (some (.ref D)), csl⟩) (hD : clsIn K D = some cdD) (hsub : mroIn K C (.ref D) = some true) (hsuper : mg "super" = none)
    (hat : (attr == ("__class__" : Str)) = false) (hks : scope.names.lookup ("super" : Str) = some .globalImplicit) (hkc : scope.names.lookup ("__class__" : Str) = some .free) (hka : scope.names.lookup ar.arg = some .local) (hk : scope.kind = .function)
    (htop : (prog.main.scope.names.lookup ("super" : Str)).isSome = false)
    (h : ∀ h', h'.get? s.heap.objs.size = some (ks_superObj D x C) → (∀ b o, s.heap.get? b = some o → h'.get? b = some o) → Q (.ref s.heap.objs.size) { s with heap := h' }) :
    _root_.PySem.wpAt (model prog w) A (.func body (ksEnv q scope L f (.ref cda) cc)) (attributeBase (.Call (.Name "super" p0) [] [] p1) attr (ksEnv q scope L f (.ref cda) cc) whole) Q E s := by
  obtain ⟨hh, g, d, t, os⟩ := s
  obtain ⟨mb, hb1, hb2⟩ := Bl
  obtain ⟨oD, hD1, hD2⟩ : ∃ oD, hh.get? D = some oD ∧ oD.data = .cls cdD := by
    unfold clsIn at hD
    split at hD
    · rename_i c d cd' sl ho
      cases hD
      exact ⟨_, X _ _ ho, rfl⟩
    · cases hD
  refine ks_wpAt_super_base (env := ksEnv q scope L f (.ref cda) cc) hks hkc hat rfl (X _ _ hf) rfl hp rfl (X _ _ hcode) rfl hvs hfile htop ?_
  refine ks_loadName_global hk hks (loadGlobal_builtin (env := ksEnv q scope L f (.ref cda) cc) G hsuper hb1 ((hb2 _ (by decide +kernel)).trans (by decide +kernel)) ⟨rfl, ?_⟩)
  refine wpAny_loadName_free hk hkc rfl ⟨_, X _ _ hcell, rfl⟩ ?_
  refine wpAny_loadName_local hk hka hn hv ?_
  refine ks_wpAny_isType_cls hD1 hD2 ⟨rfl, ?_⟩
  refine ks_wpAny_call_super hD1 hD2 I.at_ I.cls (fun c e => ?_) (looks_mroIn X hsub) (fun h' e k => h h' e k)
  have := I.no
  unfold notCls at this
  rw [e] at this
  exact Bool.noConfusion this
/-- super().m of a built-in __init__ -/
theorem super_meth {B i : String} {name : Str} {pl : Sem Bool} {Q : Value × List Value → Shared → Prop} (KF : KxsFacts B i) (X : K.In s.heap) (hso : s.heap.get? so = some (ks_superObj D x C)) (I : InstAt s.heap x ox C odx) (ho : nsIn K cStatics "thirdparty.any" = some none)
    (hm : ks_superIn K C D name = some (some (.builtin i))) (hB : subIn K (.ref C) (.type B) = some true) (hn : (name == ("__class__" : Str)) = false)
    (h : Q (.ref s.heap.objs.size, []) { s with heap := s.heap.push (kxs_mw i x), toks := s.toks + 1 }) : wpAny (model prog w) A (getMethod (.ref so) name pl) Q E s := by
  have hI : Looks (model prog w) s.heap (isInstance (.ref x) (.type B)) true := I.type.andThen (looks_subIn X hB)
  obtain ⟨hh, g, d, t, os⟩ := s
  cases hc : clsIn K C with
  | none => unfold ks_superIn at hm; rw [hc] at hm; cases hm
  | some cd =>
    unfold ks_superIn at hm
    rw [hc] at hm
    refine kxs_getMethod KF hso (looks_opaque X ho) (l₀ := cd.mro) ?_ rfl X hm hI (ks_ne X I hc) hn h
    exact fun A Q E s k q => wpAny_bind ((looks_clsIn X hc) A _ E s k (wpAny_pure q))
/-- super().m of a def of the text -/
theorem super_own {name : Str} {pl : Sem Bool} {f2 : Addr} {of : Obj} {Q : Value × List Value → Shared → Prop} (X : K.In s.heap) (hso : s.heap.get? so = some (ks_superObj D x C)) (I : InstAt s.heap x ox C odx) (ho : nsIn K cStatics "thirdparty.any" = some none)
    (hm : ks_superIn K C D name = some (some (.ref f2))) (hfo : K.lookup f2 = some of) (hfc : of.cls = .type "function") (hn : (name == ("__class__" : Str)) = false)
    (h : Q (.ref s.heap.objs.size, []) { s with heap := s.heap.push (methodObj (.ref f2) (.ref x)), toks := s.toks + 1 }) : wpAny (model prog w) A (getMethod (.ref so) name pl) Q E s := by
  obtain ⟨hh, g, d, t, os⟩ := s
  cases hc : clsIn K C with
  | none => unfold ks_superIn at hm; rw [hc] at hm; cases hm
  | some cd =>
    unfold ks_superIn at hm
    rw [hc] at hm
    refine ks_wpAny_getMethod_super hso (looks_opaque X ho) (l₀ := cd.mro) ?_ rfl X hm (X _ _ hfo) hfc (ks_ne X I hc) hn h
    exact fun A Q E s k q => wpAny_bind ((looks_clsIn X hc) A _ E s k (wpAny_pure q))
end
end FKX
end PySem

/-! Forkhaul k08: the __init__ of ForkError, BadObject, NoObject. -/
namespace PySem
namespace FKX
open PySem.W PySem.Calls PyProof.Rows PySem.HandSPX
abbrev bnd (a : Str) (u v : Value) : List (Str × Value) := [("self", u), (a, v)]
theorem bnd_loc {names : List (Str × NameKind)} {a : Str} {u v : Value} (h1 : names.lookup ("self" : Str) = some .local) (h2 : names.lookup a = some .local) : ∀ y ∈ bnd a u v, names.lookup y.1 = some .local := fun y hy => by
  rcases List.mem_cons.mp hy with rfl | hy
  · exact h1
  · rcases List.mem_cons.mp hy with rfl | hy
    · exact h2
    · cases hy
/-- what __init__ leaves of a fresh exception at x: its dict at dx -/
structure InitEnd (h h' : Heap) (x C dx : Addr) (m : Str → Option Value) : Prop where
  keep : ∀ b o, b ≠ x → h.get? b = some o → h'.get? b = some o
  obj : ∃ t1, h'.get? x = some (excObj C t1 (some dx) .none)
  dbig : h.objs.size ≤ dx
  dne : dx ≠ x
  ns : h'.Ns1 dx m
/-- the class at C of the exception that is made, the class at D whose __init__ runs, a field a -/
structure Mkr (K : Frag) (C D : Addr) (newId : String) (a : Str) : Prop where
  cls : ∃ nm q N bs bm sn sub ab col dd k0 k1 k2 k3 k5, K.lookup C = some (excClassObj nm q C N bs bm true sn sub ab col dd k0 k1 k2 k3 k5 newId)
  can : CanStore K C
  sa : findIn K (.ref C) "__setattr__" = some (some (.builtin "object.__setattr__"))
  no : findIn K (.ref C) a = some none
  sub : mroIn K C (.ref D) = some true
section
variable {prog : Program} {w : World} {A : Around} {E : Value → Shared → Prop} {R : Result → Shared → Prop} {s : Shared} {K : Frag} {mg : Str → Option Value} {base : Heap} {C D f : Addr}
theorem one_le (v : Value) : [v].length ≤ sizeLine := by
  rw [sizeLine_eq]
  exact (by decide : 1 ≤ 16777216)
theorem ld_local {M : Model} {A : Around} {E : Value → Shared → Prop} {s : Shared} {env : Env} {m : Str → Option Value} {x : Str} {pos : Pos} {v : Value} {Q : Value → Shared → Prop} (hn : s.heap.Ns env.locals m) (hv : m x = some v) (h : Q v s)
    (hk : env.scope.kind = .function) (hl : env.kindOf x = some .local) (hd : (x == ("__debug__" : Str)) = false) : wpAny M A (eval (.Name x pos) env) Q E s := wpAny_Name (wpAny_loadName_local hk hl hn hv h) hd
theorem fork_init {dV : Value} {T : Addr} {oT : Obj} {d0 : Value} {nT : Nat} (hP : prog.main.scope.names.lookup ("super" : Str) = none) (S : Sup K prog f D "ForkError.__init__" sFork dV) (hT : dV = .ref T) (lT : K.lookup T = some oT) (dT : oT.data = .seq #[d0] nT)
    (MK : Mkr K C D "ValueError.__new__" "why") (hB : subIn K (.ref C) (.type "ValueError") = some true) (hS : ks_superIn K C D "__init__" = some (some (.builtin "ValueError.__init__"))) (ho : nsIn K cStatics "thirdparty.any" = some none)
    (MB : Modx K mg base) (kb : ∀ b o, base.get? b = some o → s.heap.get? b = some o) {x t0 : Addr} {v : Value} (hx : s.heap.get? x = some (excObj C t0 none .none)) (hxb : base.get? x = none) (hsuper : mg "super" = none) (hroom : A.depth < recursionLimit)
    (hq : ∀ h' tk dx, InitEnd s.heap h' x C dx (fun y => if y = "why" then some v else none) → R (.ok (.ret .none)) { s with heap := h', toks := tk }) :
    codeAny (model prog w) A (.call (.ref f) ⟨[.ref x, v], []⟩) R s := by
  obtain ⟨oc, od, kV, doc, pm, an, cda, ct, cc, osl, ccl, cdd, vs, ccs, tf, cl, cld, csl, cdD, lf, hcd, lc, hvs, lcc, hD⟩ := S.ex
  obtain ⟨nm, q, N, bs, bm, sn, sub, ab, col, dd, k0, k1, k2, k3, k5, lC⟩ := MK.cls
  subst hT
  have X : K.In s.heap := MB.kin.keeps kb
  have keepB : ∀ {h' : Heap}, (∀ b o, b ≠ x → s.heap.get? b = some o → h'.get? b = some o) → ∀ b o, base.get? b = some o → h'.get? b = some o := fun k b o e => k b o (fun z => by rw [z, hxb] at e; cases e) (kb b o e)
  have hbind : BindsTo s (ksFn "__init__" "ForkError.__init__" (L2.defArgs sFork) (L2.defBody sFork) (L2.defScope sFork) (.ref T) kV doc pm an (.ref cda) ct cc) ⟨[.ref x, v], []⟩ (bnd "why" (.ref x) v) :=
    L2.BindsTo.of_looks fun M => by
      obtain ⟨kk, e1, e2⟩ : ∃ k : Option (Array Value) → Sem (List (Str × Value)), bindArgs (ksFn "__init__" "ForkError.__init__" (L2.defArgs sFork) (L2.defBody sFork) (L2.defScope sFork) (.ref T) kV doc pm an (.ref cda) ct cc) ⟨[.ref x, v], []⟩ = seqItems? (.ref T) >>= k ∧
          k (some #[d0]) = pure (bnd "why" (.ref x) v) := ⟨_, rfl, by kernel_rfl⟩
      rw [e1]
      exact L2.looks_items X lT dT (by rw [e2]; exact .now)
  refine ks_codeAny_call_defAt (fd := ksFn "__init__" "ForkError.__init__" (L2.defArgs sFork) (L2.defBody sFork) (L2.defScope sFork) (.ref T) kV doc pm an (.ref cda) ct cc) (body := L2.defBody sFork) (binds := (bnd "why" (.ref x) v)) hroom (X _ _ lf) rfl (MB.nolimit.keeps kb) (codeRec_of X hcd) rfl hbind
    (show ∀ y ∈ (L2.defScope sFork).names, y.2 ≠ .cell by decide +kernel) (bnd_loc (show (L2.defScope sFork).names.lookup ("self" : Str) = some .local by decide +kernel) (show (L2.defScope sFork).names.lookup ("why" : Str) = some .local by decide +kernel)) (fun h₁ hns k₁ => ?_)
  have X₁ : K.In h₁ := X.keeps k₁
  have hx₁ := k₁ _ _ hx
  have I₁ : InstAt h₁ x (excObj C t0 none .none) C none := ⟨hx₁, rfl, rfl, trivial⟩
  have keepB₁ : ∀ b o, base.get? b = some o → h₁.get? b = some o := fun b o e => k₁ b o (kb b o e)
  obtain ⟨mb, hb1, hb2⟩ := MB.blt
  show _root_.PySem.wpAt (model prog w) _ (.func _ (ksEnv "ForkError.__init__" (L2.defScope sFork) s.heap.objs.size f (.ref cda) cc)) (execs (_ :: _) (ksEnv "ForkError.__init__" (L2.defScope sFork) s.heap.objs.size f (.ref cda) cc)) _ _ _
  refine ks_wpAt_execs_cons (ks_wpAt_Expr_any (ks_wpAt_MethodCall (super_node (s := { s with heap := h₁, toks := _ }) hns X₁ (MB.glob.keeps keepB₁) ⟨mb, hb1.keeps keepB₁, hb2⟩ lf rfl (by kernel_rfl) I₁ lc hvs (by simp) lcc hD MK.sub hsuper (by decide +kernel) (by decide +kernel) (by decide +kernel) (by decide +kernel) rfl (by rw [hP]; rfl) fun h₂ hso k₂ => ?_)))
  have X₂ : K.In h₂ := X₁.keeps k₂
  have I₂ : InstAt h₂ x (excObj C t0 none .none) C none := ⟨k₂ _ _ hx₁, rfl, rfl, trivial⟩
  refine super_meth (i := "ValueError.__init__") initF_VE.kxs X₂ hso I₂ ho hS hB (by decide +kernel) ?_
  have k₃ : ∀ b o, h₂.get? b = some o → (h₂.push (kxs_mw "ValueError.__init__" x)).get? b = some o := fun b o e => Heap.get?_push_of_some _ e
  have hu : (h₂.push (kxs_mw "ValueError.__init__" x)).get? h₂.objs.size = some (kxs_mw "ValueError.__init__" x) := Heap.get?_push_at rfl rfl
  have kk₃ : ∀ b o, h₁.get? b = some o → (h₂.push (kxs_mw "ValueError.__init__" x)).get? b = some o := fun b o e => k₃ b o (k₂ b o e)
  refine kxs_callWith (i := "ValueError.__init__") (x := x) rfl (evalArgs_plain (spliced_cons (ld_local (v := v) (hns.keeps kk₃) (by kernel_rfl) ?_ rfl (by kernel_rfl) (by decide +kernel))))
  refine spliced_nil ⟨hu, ?_⟩
  refine call_mw initF_VE (C := C) (dv := none) (X₂.keeps k₃ _ _ lC) (k₃ _ _ I₂.at_) hu (one_le v) fun h₄ t₄ k₄ hx₄ => ?_
  have X₄ : K.In h₄ := fun b o e => k₄ b o (fun z => by
    rw [z] at e
    have := MB.kin _ _ e
    rw [hxb] at this
    cases this) (X₂.keeps k₃ b o e)
  have hL : s.heap.objs.size ≠ x := fun z => by
    have := Heap.lt_size hx
    rw [← z] at this
    exact Nat.lt_irrefl _ this
  obtain ⟨oL, es, ep, hoL, rL⟩ := hns
  have hns₄ : h₄.Ns s.heap.objs.size (fun y => (bnd "why" (.ref x) v).reverse.lookup y) := ⟨oL, es, ep, k₄ _ _ hL (kk₃ _ _ hoL), rL⟩
  -- self.why = why
  show _root_.PySem.wpAt (model prog w) _ _ (execs (_ :: _) (ksEnv "ForkError.__init__" (L2.defScope sFork) s.heap.objs.size f (.ref cda) cc)) _ _ _
  refine ks_wpAt_execs_cons (ks_wpAt_Assign_Attr (wpAt_of_wpAny (ld_local (v := v) hns₄ (by kernel_rfl) (ld_local (v := .ref x) hns₄ (by kernel_rfl) ?_ rfl (by kernel_rfl) (by decide +kernel)) rfl (by kernel_rfl) (by decide +kernel))) (by rfl))
  refine set_plain X₄ (ox := excObj C t₄ none .none) (od := none) ⟨hx₄, rfl, rfl, trivial⟩ MK.sa ?_
  refine MK.can _ _ _ _ _ _ _ _ _ _ _ _ _ _ X₄ hx₄ MK.no fun h₅ tk₅ dx k₅ dn dne hx₅ hn₅ => ?_
  show _root_.PySem.wpAt (model prog w) _ _ (execs _ _) _ _ _
  refine wpAt_of_wpAny (wpAny_execs_nil (hq h₅ tk₅ dx ⟨fun b o hb e => k₅ b o hb (k₄ b o hb (kk₃ b o (k₁ b o e))), ⟨t₄, hx₅⟩, ?_, dne, hn₅⟩))
  have z1 : s.heap.objs.size < h₄.objs.size := hns₄.lt
  exact Nat.le_trans (Nat.le_of_lt z1) dn
theorem noobj_init (hP : prog.main.scope.names.lookup ("super" : Str) = none) (S : Sup K prog f D "NoObject.__init__" sNoObj .none)
    (MK : Mkr K C D "LookupError.__new__" "name") (hB : subIn K (.ref C) (.type "KeyError") = some true) (hS : ks_superIn K C D "__init__" = some (some (.builtin "KeyError.__init__"))) (ho : nsIn K cStatics "thirdparty.any" = some none)
    (MB : Modx K mg base) (kb : ∀ b o, base.get? b = some o → s.heap.get? b = some o) {x t0 : Addr} {v : Value} (hx : s.heap.get? x = some (excObj C t0 none .none)) (hxb : base.get? x = none) (hsuper : mg "super" = none) (hroom : A.depth < recursionLimit)
    (hq : ∀ h' tk dx, InitEnd s.heap h' x C dx (fun y => if y = "name" then some v else none) → R (.ok (.ret .none)) { s with heap := h', toks := tk }) :
    codeAny (model prog w) A (.call (.ref f) ⟨[.ref x, v], []⟩) R s := by
  obtain ⟨oc, od, kV, doc, pm, an, cda, ct, cc, osl, ccl, cdd, vs, ccs, tf, cl, cld, csl, cdD, lf, hcd, lc, hvs, lcc, hD⟩ := S.ex
  obtain ⟨nm, q, N, bs, bm, sn, sub, ab, col, dd, k0, k1, k2, k3, k5, lC⟩ := MK.cls
  have X : K.In s.heap := MB.kin.keeps kb
  have keepB : ∀ {h' : Heap}, (∀ b o, b ≠ x → s.heap.get? b = some o → h'.get? b = some o) → ∀ b o, base.get? b = some o → h'.get? b = some o := fun k b o e => k b o (fun z => by rw [z, hxb] at e; cases e) (kb b o e)
  have hbind : BindsTo s (ksFn "__init__" "NoObject.__init__" (L2.defArgs sNoObj) (L2.defBody sNoObj) (L2.defScope sNoObj) .none kV doc pm an (.ref cda) ct cc) ⟨[.ref x, v], []⟩ (bnd "name" (.ref x) v) :=
    BindsTo.of_eq (by kernel_rfl)
  refine ks_codeAny_call_defAt (fd := ksFn "__init__" "NoObject.__init__" (L2.defArgs sNoObj) (L2.defBody sNoObj) (L2.defScope sNoObj) .none kV doc pm an (.ref cda) ct cc) (body := L2.defBody sNoObj) (binds := (bnd "name" (.ref x) v)) hroom (X _ _ lf) rfl (MB.nolimit.keeps kb) (codeRec_of X hcd) rfl hbind
    (show ∀ y ∈ (L2.defScope sNoObj).names, y.2 ≠ .cell by decide +kernel) (bnd_loc (show (L2.defScope sNoObj).names.lookup ("self" : Str) = some .local by decide +kernel) (show (L2.defScope sNoObj).names.lookup ("name" : Str) = some .local by decide +kernel)) (fun h₁ hns k₁ => ?_)
  have X₁ : K.In h₁ := X.keeps k₁
  have hx₁ := k₁ _ _ hx
  have I₁ : InstAt h₁ x (excObj C t0 none .none) C none := ⟨hx₁, rfl, rfl, trivial⟩
  have keepB₁ : ∀ b o, base.get? b = some o → h₁.get? b = some o := fun b o e => k₁ b o (kb b o e)
  obtain ⟨mb, hb1, hb2⟩ := MB.blt
  show _root_.PySem.wpAt (model prog w) _ (.func _ (ksEnv "NoObject.__init__" (L2.defScope sNoObj) s.heap.objs.size f (.ref cda) cc)) (execs (_ :: _) (ksEnv "NoObject.__init__" (L2.defScope sNoObj) s.heap.objs.size f (.ref cda) cc)) _ _ _
  refine ks_wpAt_execs_cons (ks_wpAt_Expr_any (ks_wpAt_MethodCall (super_node (s := { s with heap := h₁, toks := _ }) hns X₁ (MB.glob.keeps keepB₁) ⟨mb, hb1.keeps keepB₁, hb2⟩ lf rfl (by kernel_rfl) I₁ lc hvs (by simp) lcc hD MK.sub hsuper (by decide +kernel) (by decide +kernel) (by decide +kernel) (by decide +kernel) rfl (by rw [hP]; rfl) fun h₂ hso k₂ => ?_)))
  have X₂ : K.In h₂ := X₁.keeps k₂
  have I₂ : InstAt h₂ x (excObj C t0 none .none) C none := ⟨k₂ _ _ hx₁, rfl, rfl, trivial⟩
  refine super_meth (i := "KeyError.__init__") initF_KE.kxs X₂ hso I₂ ho hS hB (by decide +kernel) ?_
  have k₃ : ∀ b o, h₂.get? b = some o → (h₂.push (kxs_mw "KeyError.__init__" x)).get? b = some o := fun b o e => Heap.get?_push_of_some _ e
  have hu : (h₂.push (kxs_mw "KeyError.__init__" x)).get? h₂.objs.size = some (kxs_mw "KeyError.__init__" x) := Heap.get?_push_at rfl rfl
  have kk₃ : ∀ b o, h₁.get? b = some o → (h₂.push (kxs_mw "KeyError.__init__" x)).get? b = some o := fun b o e => k₃ b o (k₂ b o e)
  refine kxs_callWith (i := "KeyError.__init__") (x := x) rfl (evalArgs_plain (spliced_cons (ld_local (v := v) (hns.keeps kk₃) (by kernel_rfl) ?_ rfl (by kernel_rfl) (by decide +kernel))))
  refine spliced_nil ⟨hu, ?_⟩
  refine call_mw initF_KE (C := C) (dv := none) (X₂.keeps k₃ _ _ lC) (k₃ _ _ I₂.at_) hu (one_le v) fun h₄ t₄ k₄ hx₄ => ?_
  have X₄ : K.In h₄ := fun b o e => k₄ b o (fun z => by
    rw [z] at e
    have := MB.kin _ _ e
    rw [hxb] at this
    cases this) (X₂.keeps k₃ b o e)
  have hL : s.heap.objs.size ≠ x := fun z => by
    have := Heap.lt_size hx
    rw [← z] at this
    exact Nat.lt_irrefl _ this
  obtain ⟨oL, es, ep, hoL, rL⟩ := hns
  have hns₄ : h₄.Ns s.heap.objs.size (fun y => (bnd "name" (.ref x) v).reverse.lookup y) := ⟨oL, es, ep, k₄ _ _ hL (kk₃ _ _ hoL), rL⟩
  -- self.name = name
  show _root_.PySem.wpAt (model prog w) _ _ (execs (_ :: _) (ksEnv "NoObject.__init__" (L2.defScope sNoObj) s.heap.objs.size f (.ref cda) cc)) _ _ _
  refine ks_wpAt_execs_cons (ks_wpAt_Assign_Attr (wpAt_of_wpAny (ld_local (v := v) hns₄ (by kernel_rfl) (ld_local (v := .ref x) hns₄ (by kernel_rfl) ?_ rfl (by kernel_rfl) (by decide +kernel)) rfl (by kernel_rfl) (by decide +kernel))) (by rfl))
  refine set_plain X₄ (ox := excObj C t₄ none .none) (od := none) ⟨hx₄, rfl, rfl, trivial⟩ MK.sa ?_
  refine MK.can _ _ _ _ _ _ _ _ _ _ _ _ _ _ X₄ hx₄ MK.no fun h₅ tk₅ dx k₅ dn dne hx₅ hn₅ => ?_
  show _root_.PySem.wpAt (model prog w) _ _ (execs _ _) _ _ _
  refine wpAt_of_wpAny (wpAny_execs_nil (hq h₅ tk₅ dx ⟨fun b o hb e => k₅ b o hb (k₄ b o hb (kk₃ b o (k₁ b o e))), ⟨t₄, hx₅⟩, ?_, dne, hn₅⟩))
  have z1 : s.heap.objs.size < h₄.objs.size := hns₄.lt
  exact Nat.le_trans (Nat.le_of_lt z1) dn

theorem badobj_init {dV : Value} {T fF DF : Addr} {oT : Obj} {d0 : Value} {nT : Nat} (hP : prog.main.scope.names.lookup ("super" : Str) = none) (S : Sup K prog f D "BadObject.__init__" sBadObj .none)
    (SF : Sup K prog fF DF "ForkError.__init__" sFork dV) (hT : dV = .ref T) (lT : K.lookup T = some oT) (dT : oT.data = .seq #[d0] nT) (MKF : Mkr K C DF "ValueError.__new__" "why") (hSF : ks_superIn K C DF "__init__" = some (some (.builtin "ValueError.__init__")))
    (MK : Mkr K C D "ValueError.__new__" "at") (hB : subIn K (.ref C) (.type "ValueError") = some true) (hS : ks_superIn K C D "__init__" = some (some (.ref fF))) (ho : nsIn K cStatics "thirdparty.any" = some none)
    (cdm : ∃ cd, clsIn K C = some cd ∧ refsVE cd.mro = true ∧ cd.hasDict = true)
    (MB : Modx K mg base) (kb : ∀ b o, base.get? b = some o → s.heap.get? b = some o) {x t0 : Addr} {v : Value} (hx : s.heap.get? x = some (excObj C t0 none .none)) (hxb : base.get? x = none) (hsuper : mg "super" = none) (hroom : A.depth + 3 < recursionLimit)
    (hq : ∀ h' tk dx τ, InitEnd s.heap h' x C dx (fun y => if y = "at" then some v else if y = "why" then some (.str "not an object" τ) else none) → R (.ok (.ret .none)) { s with heap := h', toks := tk }) :
    codeAny (model prog w) A (.call (.ref f) ⟨[.ref x, v], []⟩) R s := by
  obtain ⟨oc, od, kV, doc, pm, an, cda, ct, cc, osl, ccl, cdd, vs, ccs, tf, cl, cld, csl, cdD, lf, hcd, lc, hvs, lcc, hD⟩ := S.ex
  obtain ⟨nm, q, N, bs, bm, sn, sub, ab, col, dd, k0, k1, k2, k3, k5, lC⟩ := MK.cls
  have X : K.In s.heap := MB.kin.keeps kb
  have hbind : BindsTo s (ksFn "__init__" "BadObject.__init__" (L2.defArgs sBadObj) (L2.defBody sBadObj) (L2.defScope sBadObj) .none kV doc pm an (.ref cda) ct cc) ⟨[.ref x, v], []⟩ (bnd "at" (.ref x) v) :=
    BindsTo.of_eq (by kernel_rfl)
  refine ks_codeAny_call_defAt (fd := ksFn "__init__" "BadObject.__init__" (L2.defArgs sBadObj) (L2.defBody sBadObj) (L2.defScope sBadObj) .none kV doc pm an (.ref cda) ct cc) (body := L2.defBody sBadObj) (binds := (bnd "at" (.ref x) v)) (Nat.lt_of_le_of_lt (Nat.le_add_right _ _) hroom) (X _ _ lf) rfl (MB.nolimit.keeps kb) (codeRec_of X hcd) rfl hbind
    (show ∀ y ∈ (L2.defScope sBadObj).names, y.2 ≠ .cell by decide +kernel) (bnd_loc (show (L2.defScope sBadObj).names.lookup ("self" : Str) = some .local by decide +kernel) (show (L2.defScope sBadObj).names.lookup ("at" : Str) = some .local by decide +kernel)) (fun h₁ hns k₁ => ?_)
  have X₁ : K.In h₁ := X.keeps k₁
  have hx₁ := k₁ _ _ hx
  have I₁ : InstAt h₁ x (excObj C t0 none .none) C none := ⟨hx₁, rfl, rfl, trivial⟩
  have keepB₁ : ∀ b o, base.get? b = some o → h₁.get? b = some o := fun b o e => k₁ b o (kb b o e)
  obtain ⟨mb, hb1, hb2⟩ := MB.blt
  show _root_.PySem.wpAt (model prog w) _ (.func _ (ksEnv "BadObject.__init__" (L2.defScope sBadObj) s.heap.objs.size f (.ref cda) cc)) (execs (_ :: _) (ksEnv "BadObject.__init__" (L2.defScope sBadObj) s.heap.objs.size f (.ref cda) cc)) _ _ _
  refine ks_wpAt_execs_cons (ks_wpAt_Expr_any (ks_wpAt_MethodCall (super_node (s := { s with heap := h₁, toks := _ }) hns X₁ (MB.glob.keeps keepB₁) ⟨mb, hb1.keeps keepB₁, hb2⟩ lf rfl (by kernel_rfl) I₁ lc hvs (by simp) lcc hD MK.sub hsuper (by decide +kernel) (by decide +kernel) (by decide +kernel) (by decide +kernel) rfl (by rw [hP]; rfl) fun h₂ hso k₂ => ?_)))
  have X₂ : K.In h₂ := X₁.keeps k₂
  have I₂ : InstAt h₂ x (excObj C t0 none .none) C none := ⟨k₂ _ _ hx₁, rfl, rfl, trivial⟩
  obtain ⟨ocF, odF, kVF, docF, pmF, anF, cdaF, ctF, ccF, oslF, _, _, _, _, _, _, _, _, _, lfF, _⟩ := SF.ex
  have tyF : ocF = .type "function" := by
    have := SF.ty
    rw [show typeIn K (.ref fF) = (K.lookup fF).map (fun x => x.cls) from rfl, lfF] at this
    simpa using this
  refine super_own X₂ hso I₂ ho hS lfF tyF (by decide +kernel) ?_
  have k₃ : ∀ b o, h₂.get? b = some o → (h₂.push (methodObj (.ref fF) (.ref x))).get? b = some o := fun b o e => Heap.get?_push_of_some _ e
  have hu : (h₂.push (methodObj (.ref fF) (.ref x))).get? h₂.objs.size = some (methodObj (.ref fF) (.ref x)) := Heap.get?_push_at rfl rfl
  have kk₃ : ∀ b o, h₁.get? b = some o → (h₂.push (methodObj (.ref fF) (.ref x))).get? b = some o := fun b o e => k₃ b o (k₂ b o e)
  refine callWith_of (f := .ref h₂.objs.size) rfl (keeps_M (K := K) (f := fF) (self := .ref x) (by unfold fnIn; rw [lfF])) (evalArgs_plain (spliced_cons ?_))
  refine Constant_str (k := (match (L2.defBody sBadObj) with | .Expr (.Call _ [.Constant _ k _] _ _) _ :: _ => k | _ => 0)) (pos := (match (L2.defBody sBadObj) with | .Expr (.Call _ [.Constant _ _ p] _ _) _ :: _ => p | _ => ⟨0,0,0,0⟩)) ?_
  refine spliced_nil ⟨⟨hu, X₂.keeps k₃⟩, ?_⟩
  refine wpAny_call (ks_codeAny_call_bound hu ?_)
  have hL : s.heap.objs.size ≠ x := fun z => by
    have := Heap.lt_size hx
    rw [← z] at this
    exact Nat.lt_irrefl _ this
  refine fork_init hP SF hT lT dT MKF hB hSF ho MB (fun b o e => kk₃ b o (keepB₁ b o e)) (k₃ _ _ I₂.at_) hxb hsuper ?_ fun h₄ t₄ dx IE => ?_
  · exact Nat.lt_of_le_of_lt (by show A.depth + 1 ≤ A.depth + 3; exact Nat.add_le_add_left (by decide : 1 ≤ 3) A.depth) hroom
  obtain ⟨k₄, ⟨t1, hx₄⟩, dn, dne, hn₄⟩ := IE
  have X₄ : K.In h₄ := fun b o e => k₄ b o (fun z => by
    rw [z] at e
    have := MB.kin _ _ e
    rw [hxb] at this
    cases this) (X₂.keeps k₃ b o e)
  obtain ⟨oL, es, ep, hoL, rL⟩ := hns
  have hns₄ : h₄.Ns s.heap.objs.size (fun y => (bnd "at" (.ref x) v).reverse.lookup y) := ⟨oL, es, ep, k₄ _ _ hL (kk₃ _ _ hoL), rL⟩
  show _root_.PySem.wpAt (model prog w) _ _ (execs (_ :: _) (ksEnv "BadObject.__init__" (L2.defScope sBadObj) s.heap.objs.size f (.ref cda) cc)) _ _ _
  refine ks_wpAt_execs_cons (ks_wpAt_Assign_Attr (wpAt_of_wpAny (ld_local (v := v) hns₄ (by kernel_rfl) (ld_local (v := .ref x) hns₄ (by kernel_rfl) ?_ rfl (by kernel_rfl) (by decide +kernel)) rfl (by kernel_rfl) (by decide +kernel))) (by rfl))
  obtain ⟨od4, esd, epd, ho4, rr4⟩ := id hn₄
  refine set_plain X₄ (ox := excObj C t1 (some dx) .none) (od := some od4) ⟨hx₄, rfl, rfl, ho4⟩ MK.sa ?_
  obtain ⟨cd, hcd1, hcd2, hcd3⟩ := cdm
  refine OEX.osa_old X₄ hx₄ hn₄ (nl := ["why"]) ?_ (by decide) hcd1 hcd2 hcd3 MK.no fun h₅ tk₅ k₅ hn₅ => ?_
  · intro y hy
    by_cases hw : y = "why"
    · rw [hw]; exact List.mem_singleton.mpr rfl
    · exact absurd (if_neg hw) hy
  show _root_.PySem.wpAt (model prog w) _ _ (execs _ _) _ _ _
  refine wpAt_of_wpAny (wpAny_execs_nil (hq h₅ tk₅ dx _ ⟨fun b o hb e => k₅ b o ?_ (k₄ b o hb (kk₃ b o (k₁ b o e))), ⟨t1, k₅ _ _ dne.symm hx₄⟩, ?_, dne, hn₅⟩))
  · exact Nat.ne_of_lt (Nat.lt_trans (Heap.lt_size e) (Nat.lt_of_lt_of_le (Heap.lt_size (kk₃ _ _ hoL)) dn))
  · exact Nat.le_of_lt (Nat.lt_of_lt_of_le (Heap.lt_size (kk₃ _ _ hoL)) dn)
end
end FKX
end PySem

/-! Forkhaul k08: several except clauses that all have a name. -/
namespace L2
open PySem PySem.Spec PyProof.Rows
def wAsMany (K : PySem.W.Frag) (Wout : WX) (D : Ends) : List (Value × Nat × (Addr → Value → Option Addr → TS)) → WX
  | [] => Wout
  | (c, i, ts) :: r => fun cls d σ H => ∃ b, PySem.W.exmOne K cls c = some b ∧
      (b = true → ∀ a, H a = none → ts a cls d { nx := fun σ' H' => D.nx (σ'.set i none) H', rt := D.rt, bk := fun σ' H' => D.bk (σ'.set i none) H', ct := fun σ' H' => D.ct (σ'.set i none) H' } (σ.set i (some (.ref a))) H) ∧ (b = false → wAsMany K Wout D r cls d σ H)
inductive HdsAs (X : Cx) : List ExceptHandler → List (Value × Nat × (Addr → Value → Option Addr → TS)) → Prop
  | nil : HdsAs X [] []
  | cons {x n : Str} {c : Value} {i : Nat} {ts : Addr → Value → Option Addr → TS} {b₀ : Stmt} {suite : List Stmt} {np pos' : Pos} {hds : List ExceptHandler} {l : List (Value × Nat × (Addr → Value → Option Addr → TS))} (hi : X.N[i]? = some n) (hln : X.env.kindOf n = some .local) (hc : Names X x c)
      (hsu : ∀ (a : Addr) (oe : Obj) (cls : Value) (d : Option Addr) (pn : List (Addr × Obj)), Zc cls d oe → (∃ vs, oe.data = .fields vs) → PSs (X.suite a ((a, oe) :: pn)) (b₀ :: suite) (ts a cls d)) (r : HdsAs X hds l) :
      HdsAs X (.ExceptHandler (some (.Name x np)) (some n) (b₀ :: suite) pos' :: hds) ((c, i, ts) :: l)
section
variable {X : Cx} {body : List Stmt} {h₀ : ExceptHandler} {hds : List ExceptHandler} {l : List (Value × Nat × (Addr → Value → Option Addr → TS))} {pos : Pos} {tb : WX → TS} {Wout : WX}
theorem ps_try_asMany (hN : X.N.Nodup) (hs : X.stack = X.env :: X.outer) (hf : X.env.frame = some X.env.locals) (tk : Takes X Wout)
    (hb : ∀ (W : WX) (pn : List (Addr × Obj)) (xe : Value → Shared → Prop), Takes (X.tr pn xe) W → PassesOwn (model X.prog X.w) X.A X.env xe → PSs (X.tr pn xe) body (tb W))
    (hh : HdsAs X (h₀ :: hds) l) : PS X (.Try body (h₀ :: hds) [] [] pos) (fun D σ H => tb (wAsMany X.K Wout D l) D σ H) := by
  refine ⟨fun pins s σ H D I h => ?_⟩
  have ok := I.ok
  have hfr : X.A.frames = some (X.env :: X.outer) := by rw [ok.frames, hs]
  refine wpAny_Try_except ?_
  refine wpAny_mono ((hb (wAsMany X.K Wout D l) (X.pn ++ pins) (fun e s₁ => wpAny (model X.prog X.w) X.A (noteFrame e X.env) (fun _ s₂ => wpAny (model X.prog X.w) X.A (setFlight e none) (fun _ s₃ =>
    wpAny (model X.prog X.w) X.A (handleBy e X.env (h₀ :: hds)) (SP X pins D) X.xe s₃) X.xe s₂) X.xe s₁) (fun u s' xx => ?_) PassesOwn.looking).run [] s σ H D (I.toTry _) h) (fun f s1 hsp => ?_) (fun e s1 he => he)
  · -- the catch
    obtain ⟨a, B, sI, pins', σ', H', cls, d, rfl, J', nb, up, sky, na, os, ag, w⟩ := xx
    have J : Inv X pins σ' H' sI := J'.ofTry ok
    have sky' : Sky B (X.env :: X.outer) a (Zc cls d) X.env.locals s'.heap := by rw [← hs]; exact sky
    show wpAny (model X.prog X.w) X.A (noteFrame (.ref a) X.env) _ _ _
    refine Sky.land Zc.steady hfr hf sky' fun h3 fl3 up3 => ?_
    have J3 : Inv X pins σ' H' { s' with heap := h3 } := J.landed nb fl3.1 (up.trans up3) os ag
    obtain ⟨oe3, vs3, he3, hz3, hd3⟩ := fl3.there
    have notFr : ∀ {h : Heap} {o : Obj} {vs : Array Value}, h.FunFrames B (X.env :: X.outer) → h.get? a = some o → o.data = .fields vs → a ∉ frs (X.env :: X.outer) := fun {h o vs} ff e dd hm => by
      obtain ⟨_, o', e', hnf⟩ := ff.mem hm
      rw [e] at e'; cases e'
      exact hnf _ dd
    have nfr := notFr fl3.2.2.1 he3 hd3
    have nL : a ≠ X.env.locals := fun z => nfr (List.mem_filterMap.mpr ⟨X.env, List.mem_cons_self, by rw [hf, z]⟩)
    have nF : a ∉ X.fs := fun hm => by
      obtain ⟨e, he, q⟩ := List.mem_filterMap.mp hm
      exact nfr (List.mem_filterMap.mpr ⟨e, List.mem_cons_of_mem _ he, q⟩)
    have S3 := J3.suite he3 hd3 na nL nF
    have go : ∀ {hds' : List ExceptHandler} {l' : List (Value × Nat × (Addr → Value → Option Addr → TS))}, HdsAs X hds' l' → wAsMany X.K Wout D l' cls d σ' H' →
        wpAny (model X.prog X.w) X.A (handleBy (.ref a) X.env hds') (SP X pins D) X.xe { s' with heap := h3 } := by
      intro hds' l' hk
      induction hk with
      | nil =>
        intro w
        refine wpAny_handleBy_nil ?_
        obtain ⟨k1, k2, k3, oe, vs, T, oT, ts', he, hz, hd, h1, hr⟩ := id fl3
        unfold PySem.passOn
        refine wpAny_bind (wpAny_field he hd h1 ?_)
        rw [if_neg (show ¬ ((Value.ref T == Value.none) = true) from by simp)]
        have fin : wpAny (model X.prog X.w) X.A (setFlight (.ref a) X.env.frame) (fun _ s4 => wpAny (model X.prog X.w) X.A (throw (.ref a) : Sem Flow) (SP X pins D) X.xe s4) X.xe { s' with heap := h3 } := by
          rw [hf]
          refine HandSPX.setFlight_upZ fl3 fun h4 hh4 up4 => wpAny_throw (tk _ _ ?_)
          exact ⟨a, B, sI, pins, σ', H', cls, d, rfl, J, nb, (up.trans up3).trans up4, .inr (.inr (by rw [hs]; exact hh4)), na, os, ag, w⟩
        first
          | exact wpAny_bind (wpAny_pure (wpAny_bind fin))
          | exact wpAny_bind fin
      | @cons x n c i ts b₀ suite np pos' hds2 l2 hi hln hc hsu r ih =>
        intro w
        obtain ⟨b, hb1, hyes, hno⟩ := w
        refine wpAny_handleBy_cons (codeAny_handlers_test ?_) (by intro q; cases q)
        have LT : PySem.W.Looks (model X.prog X.w) h3 (typeOf (.ref a)) cls := fun A Q E s k q => wpAny_typeOf_ref (k _ _ he3) (by rw [hz3.1]; exact q)
        have LM := PySem.W.exm_one (M := model X.prog X.w) (J3.kIn) LT hb1
        have test : ∀ {Q : Value → Shared → Prop} {E : Value → Shared → Prop}, Q c { s' with heap := h3 } → wpAny (model X.prog X.w) (X.A.mark (some (.ref a))) (eval (.Name x np) X.env) Q E { s' with heap := h3 } := fun {Q E} q => by
          obtain ⟨hg, hdbg, hm | ⟨hm, hv, hnn⟩⟩ := hc
          · exact ld_glob (X := X.suite a ((a, oe3) :: (X.pn ++ pins))) S3 hg hm q hdbg
          · exact ld_blt (X := X.suite a ((a, oe3) :: (X.pn ++ pins))) S3 hg hm hv q hnn hdbg
        refine test (LM.here ?_)
        cases b with
        | true =>
          refine codeAny_handlers_suite_as ?_
          refine HandSPX.lands_againZ fl3 fun h4 fl4 up4 => ?_
          have J4 : Inv X pins σ' H' { s' with heap := h4 } := J.landed nb fl4.1 ((up.trans up3).trans up4) os ag
          obtain ⟨oe4, vs4, he4, hz4, hd4⟩ := fl4.there
          have S4 := J4.suite he4 hd4 na nL nF
          have hloc : Loc X.env.scope n := .inl hln
          refine store_ok (X := X.suite a ((a, oe4) :: (X.pn ++ pins))) (v := .ref a) S4 hN hi hloc rfl (fun s5 S5 => ?_) (.inr hln)
          refine wpAny_mono ((hsu a oe4 cls d (X.pn ++ pins) hz4 ⟨_, hd4⟩).run [] s5 _ H' _ S5 (hyes rfl a na)) (fun f s6 hsp => ?_) (fun _ _ z => False.elim z)
          have end_ : ∀ {σ6 : St} {H6 : Hp} {Q : Shared → Prop}, Inv (X.suite a ((a, oe4) :: (X.pn ++ pins))) [] σ6 H6 s6 → (∀ s7, Inv X pins (σ6.set i none) H6 s7 → Q s7) →
              wpAny (model X.prog X.w) X.A (do bindName X.env n .none; unbindBehindTheSuite X.env n pos') (fun _ s7 => Q s7) X.xe s6 := fun {σ6 H6 Q} S6 hq => gone_ok (S6.unsuite ok) hN hi hln hq
          cases f with
          | next =>
            obtain ⟨σ6, H6, S6, q6⟩ := hsp
            exact end_ S6 fun s7 J7 => ⟨_, _, J7, q6⟩
          | brk =>
            obtain ⟨σ6, H6, S6, q6⟩ := hsp
            exact end_ S6 fun s7 J7 => ⟨_, _, J7, q6⟩
          | cont =>
            obtain ⟨σ6, H6, S6, q6⟩ := hsp
            exact end_ S6 fun s7 J7 => ⟨_, _, J7, q6⟩
          | ret u =>
            obtain ⟨v6, σ6, H6, S6, r6, q6⟩ := hsp
            exact end_ S6 fun s7 J7 => ⟨_, _, _, J7, r6, q6⟩
        | false =>
          show wpAny _ X.A (handleBy (.ref a) X.env hds2) _ _ _
          exact ih (hno rfl)
    exact go hh w
  · cases f with
    | next =>
      obtain ⟨σ', H', J', q⟩ := hsp
      exact wpAny_execs_nil ⟨σ', H', J'.ofTry ok, q⟩
    | brk =>
      obtain ⟨σ', H', J', q⟩ := hsp
      exact ⟨σ', H', J'.ofTry ok, q⟩
    | cont =>
      obtain ⟨σ', H', J', q⟩ := hsp
      exact ⟨σ', H', J'.ofTry ok, q⟩
    | ret u =>
      obtain ⟨v, σ', H', J', r, q⟩ := hsp
      exact ⟨v, σ', H', J'.ofTry ok, r, q⟩
end
end L2

/-! Forkhaul k08: making own exceptions, C(e). -/
namespace PySem
namespace FKX
open PySem.W PySem.Calls PyProof.Rows PySem.HandSPX
/-- what C's own __init__ leaves: the dict's words -/
def InitGo (prog : Program) (w : World) (base : Heap) (C fI : Addr) (ms : Value → Nat → Str → Option Value) : Prop :=
  ∀ (A : Around) (R : Result → Shared → Prop) (s : Shared) (x t0 : Addr) (v : Value), A.depth + 3 < recursionLimit → (∀ b o, base.get? b = some o → s.heap.get? b = some o) → s.heap.get? x = some (excObj C t0 none .none) → base.get? x = none →
    (∀ h' tk dx τ, InitEnd s.heap h' x C dx (ms v τ) → R (.ok (.ret .none)) { s with heap := h', toks := tk }) → codeAny (model prog w) A (.call (.ref fI) ⟨[.ref x, v], []⟩) R s
structure ExMk (prog : Program) (w : World) (K : Frag) (base : Heap) (C : Addr) (fs : L2.V → List (Str × L2.V)) : Prop where
  ex : ∃ (B newId initId : String) (bmB : List Value) (fI : Addr) (ms : Value → Nat → Str → Option Value) (nm q : Str) (N : Addr) (bs bm : List Value) (sn : List Str) (sub : List Value) (ab : Bool) (col : Option Bool) (dd : Option Addr) (k0 k1 k2 k3 k5 : Option Value),
    ExcBaseFacts B newId initId bmB ∧ NewOk bm B ∧ K.lookup C = some (excClassObj nm q C N bs bm true sn sub ab col dd k0 k1 k2 k3 k5 newId) ∧ findIn K (.ref C) "__init__" = some (some (.ref fI)) ∧ typeIn K (.ref fI) = some (.type "function") ∧
    InitGo prog w base C fI ms ∧ ∀ v v' τ f, L2.RelV v v' → L2.RelO ((fs v).lookup f) (ms v' τ f)
  kC : keepIn K (.ref C) = true
  exC : subIn K (.ref C) (.type "BaseException") = some true
  tyC : typeIn K (.ref C) = some (.type "type")
structure OwnMade (h h' : Heap) (e C d : Addr) (m : Str → Option Value) : Prop where
  keep : ∀ b o, h.get? b = some o → h'.get? b = some o
  new : h.objs.size ≤ e
  obj : ∃ oe vs, h'.get? e = some oe ∧ oe.cls = .ref C ∧ oe.dict = some d ∧ oe.data = .fields vs ∧ vs[1]? = some .none
  dbig : h.objs.size ≤ d
  dne : d ≠ e
  ns : h'.Ns1 d m
section
variable {prog : Program} {w : World} {A : Around} {E : Value → Shared → Prop} {R : Result → Shared → Prop} {s : Shared} {K : Frag} {base : Heap} {C : Addr} {fs : L2.V → List (Str × L2.V)}
theorem own_made (T : ExMk prog w K base C fs) (kin : K.In base) (kb : ∀ b o, base.get? b = some o → s.heap.get? b = some o) {v : Value} (hroom : A.depth + 4 < recursionLimit)
    (hq : ∀ h' tk e d m, OwnMade s.heap h' e C d m → (∀ y f, L2.RelV y v → L2.RelO ((fs y).lookup f) (m f)) → R (.ok (.ret (.ref e))) { s with heap := h', toks := tk }) :
    codeAny (model prog w) A (.call (.ref C) ⟨[v], []⟩) R s := by
  obtain ⟨B, newId, initId, bmB, fI, ms, nm, q, N, bs, bm, sn, sub, ab, col, dd, k0, k1, k2, k3, k5, F, b, hC, iC, tI, go, rel⟩ := T.ex
  have X : K.In s.heap := kin.keeps kb
  obtain ⟨hp, g, dr, tk, os⟩ := s
  have k : ∀ b o, hp.get? b = some o → ((hp.push (kdv_tup [v])).push (excO C hp.objs.size)).get? b = some o := fun b o e => Heap.get?_push_of_some _ (Heap.get?_push_of_some _ e)
  have hget : ((hp.push (kdv_tup [v])).push (excO C hp.objs.size)).get? (hp.objs.size + 1) = some (excO C hp.objs.size) := by heap_get
  have hnx : base.get? (hp.objs.size + 1) = none := by
    cases e : base.get? (hp.objs.size + 1) with
    | none => rfl
    | some o =>
      have z : hp.get? (hp.objs.size + 1) = some o := kb _ _ e
      exact absurd (Nat.lt_of_succ_lt (Heap.lt_size z)) (Nat.lt_irrefl _)
  refine mk_call F b (X _ _ hC) (looks_findIn X iC) (fun self => bind_fn X self tI) (one_le v) ?_
  refine go _ _ ⟨(hp.push (kdv_tup [v])).push (excO C hp.objs.size), g, dr, tk, os⟩ _ _ v ?_ (fun b o e => k b o (kb b o e)) hget hnx fun h' tk' dx τ ⟨k', ⟨t1, hx⟩, dn, dne, hns⟩ => ?_
  · exact hroom
  · have old : ∀ b o, hp.get? b = some o → h'.get? b = some o := fun b o e => k' b o (Nat.ne_of_lt (Nat.lt_succ_of_lt (Heap.lt_size e))) (k b o e)
    have z : hp.objs.size + 1 + 1 ≤ dx := by
      first
        | (simpa only [Heap.size_push] using dn)
        | exact dn
        | (have q := dn; rw [Heap.size_push, Heap.size_push] at q; exact q)
    exact ⟨rfl, hq h' tk' (hp.objs.size + 1) dx (ms v τ) ⟨old, Nat.le_succ _, ⟨_, _, hx, rfl, rfl, rfl, rfl⟩, Nat.le_trans (Nat.le_trans (Nat.le_succ _) (Nat.le_succ _)) z, dne, hns⟩ fun y f r => rel y v τ f r⟩
end
end FKX
end PySem
namespace L2
open PySem PySem.Spec PyProof.Rows
section
variable {X : Cx} {C : Addr} {fs : V → List (Str × V)}
/-- C(e) -/
def tMkE (C : Addr) (fs : V → List (Str × V)) (ta : TA) : St → Hp → XK → Prop := fun σ H Q => ta σ H fun vs H1 => ∃ v, vs = [v] ∧ ∀ d, H1 d = none → Q (.ref C) (some d) (upd H1 d (.xd (fs v)))
theorem pmk_e {x : Str} {a : Expr} {ta : TA} {p pos : Pos} {k : Nat} (T : PySem.FKX.ExMk X.prog X.w X.K X.base C fs) (gC : X.mg x = some (.ref C)) (hr : Room k X.A) (ha : PA X [a] ta) (hg : Gl X x := by rfl) (hdb : (x == ("__debug__" : Str)) = false := by decide)
    (he : starEach (a :: []) X.env = (false, eval a X.env) :: starEach [] X.env := by rfl) (hpl : (backTo pos (starEach [] X.env)).any (·.1) = false := by rfl) :
    PMk X (.Call (.Name x p) [a] [] pos) (tMkE C fs ta) := by
  intro pins s σ H Q I h
  refine wpAny_Call_Name_kw (ld_glob I hg gC ?_ hdb)
  refine PySem.W.callWith_K (h₀ := X.base) I.ok.mod.kin T.kC (thn (ha.run pos pins s σ H _ I h) fun us s1 hh => ?_) he hpl
  obtain ⟨vs, H1, I1, r1, v, ev, q1⟩ := hh
  subst ev
  refine ⟨I1.kIn, ?_⟩
  cases r1 with
  | cons rv rn =>
    rename_i v' us'
    cases rn
    show wpAny _ _ (call (.ref C) [v']) _ _ _
    have kb := I1.bk
    obtain ⟨hp, g, dr, tk, os⟩ := s1
    refine wpAny_call (PySem.FKX.own_made T I1.ok.mod.kin kb (by have := hr.dp; omega) fun h' tk' e d m M hrel => ?_)
    show MkP X pins σ Q (.ref e) ⟨h', g, dr, tk', os⟩
    obtain ⟨oe, fv, hoe, hc, hd, hdat, h1⟩ := M.obj
    have hns := M.ns
    obtain ⟨G', g1, g2⟩ := restrict h' fun b => decide (b ≠ e)
    have gk : ∀ b, b ≠ e → G'.get? b = h'.get? b := fun b hb => g1 b (decide_eq_true hb)
    have ge : G'.get? e = none := g2 e (by simp)
    have old : ∀ b o, hp.get? b = some o → G'.get? b = some o := fun b o q => (gk b (Nat.ne_of_lt (Nat.lt_of_lt_of_le (Heap.lt_size q) M.new))).trans (M.keep b o q)
    have ob : ObjOk X.prog X.w (upd H1 d (.xd (fs v))) G' d (.xd (fs v)) :=
      ⟨_, hns.at (fun o q => (gk d M.dne).trans q), fun f => hrel v f rv⟩
    have J : Inv X pins σ (upd H1 d (.xd (fs v))) ⟨G', g, dr, tk', os⟩ := I1.laid (t' := tk') old M.dbig ob
    refine ⟨e, oe, fv, ⟨G', g, dr, tk', os⟩, _, .ref C, some d, rfl, J, fun b o q => ?_, ge, hoe, ⟨hc, hd⟩, hdat, h1, ?_, rfl, I1.bare, raises_own T.exC T.tyC, q1 d (I1.hok.fresh M.dbig)⟩
    · by_cases hb : b = e
      · have q' : G'.get? b = some o := q
        rw [hb, ge] at q'; cases q'
      · exact (gk b hb).symm.trans q
    · rw [upd_ne (Ne.symm M.dne)]
      exact I1.hok.fresh M.new
/-- raise C(e) -/
def tRaiseE (C : Addr) (fs : V → List (Str × V)) (W : WX) (ta : TA) : TS := fun _ σ H => tMkE C fs ta σ H fun cls d H' => W cls d σ H'
theorem ps_raiseE {x : Str} {a : Expr} {ta : TA} {W : WX} {p pos pos2 : Pos} {k : Nat} (hc : X.calm = true) (T : PySem.FKX.ExMk X.prog X.w X.K X.base C fs) (gC : X.mg x = some (.ref C)) (hr : Room k X.A) (tk : Takes X W) (ha : PA X [a] ta) (hg : Gl X x := by rfl) (hdb : (x == ("__debug__" : Str)) = false := by decide)
    (he : starEach (a :: []) X.env = (false, eval a X.env) :: starEach [] X.env := by rfl) (hpl : (backTo pos (starEach [] X.env)).any (·.1) = false := by rfl) :
    PS X (.Raise (some (.Call (.Name x p) [a] [] pos)) none pos2) (tRaiseE C fs W ta) := ps_raise hc tk (pmk_e T gC hr ha hg hdb he hpl)
def fsWhy (v : V) : List (Str × V) := [("why", v)]
def fsAt (v : V) : List (Str × V) := [("at", v), ("why", .str "not an object")]
def fsName (v : V) : List (Str × V) := [("name", v)]
end
end L2

/-! Forkhaul k08: what is asked of the written part (Kit), methods, tables. -/
namespace FK
open PySem PySem.Spec PyProof.Rows L2

/-! ### addresses of methods -/
/-- a def at f -/
structure MF (K : PySem.W.Frag) (x q : Str) (st : Stmt) (f : Addr) (dvs : List V := []) (kws : List (Str × V) := []) : Prop where
  fd : ∃ fd, FunD K x q (defArgs st) (defBody st) (defScope st) dvs kws f fd
structure CalF (P : Program) (w : World) (K : PySem.W.Frag) (mg : Str → Option Value) (base : Heap) (CX : CXT) (k : Nat) (f : Addr) (ps : List Str) (sp : Sp) (dvs : List V := []) : Prop where
  ok : ∃ fd ds, FnOk P w K mg base CX k f fd ps sp ∧ Binds K fd ps ds ∧ Vals dvs ds
section
variable {P : Program} {w : World} {K : PySem.W.Frag} {mg : Str → Option Value} {base : Heap}
theorem calF0 {x q : Str} {st : Stmt} {f : Addr} {N ps : List Str} {k : Nat} {sp : Sp} (F : MF K x q st f) (S : FnScope N ps (defScope st))
    (hb : ∀ (kV doc pm : Value) (an : Option Addr) (cdv ct : Value) (us : List Value), us.length = ps.length → bindArgs (PySem.W.fnOf x q (defArgs st) (defBody st) (defScope st) .none kV doc pm an cdv ct) ⟨us, []⟩ = pure (ps.zip us))
    (len : ∀ vs H Q E, sp vs H Q E → vs.length = ps.length)
    (hbody : ∀ (cdv : Value) (A : Around) (outer : List Env) (s : Shared) (H : Hp) (vs : List V) (Q : VK) (E : XK), Room k (A.deeper (envOfC q (defScope st) s.heap.objs.size f cdv)) → sp vs H Q E →
      ∃ t, PSs (cxOf CX0 P w K mg base N q (defScope st) f cdv A outer s H E).nox (defBody st) t ∧ t { nx := fun _ H' => Q .non H', rt := Q } (start N vs) H) : CalF P w K mg base CX0 (k + 1) f ps sp := by
  obtain ⟨fd, FD⟩ := F.fd
  refine ⟨fd, [], FD.ok S len fun cdv A outer s H vs Q E hr h => ?_, FD.bindsN hb, .nil⟩
  obtain ⟨t, p, q⟩ := hbody cdv A outer s H vs Q E hr h
  exact ⟨t, p.nox, q⟩
theorem calFX {x q : Str} {st : Stmt} {f : Addr} {N ps : List Str} {k : Nat} {sp : Sp} (F : MF K x q st f) (S : FnScope N ps (defScope st))
    (hb : ∀ (kV doc pm : Value) (an : Option Addr) (cdv ct : Value) (us : List Value), us.length = ps.length → bindArgs (PySem.W.fnOf x q (defArgs st) (defBody st) (defScope st) .none kV doc pm an cdv ct) ⟨us, []⟩ = pure (ps.zip us))
    (len : ∀ vs H Q E, sp vs H Q E → vs.length = ps.length)
    (hbody : ∀ (cdv : Value) (A : Around) (outer : List Env) (s : Shared) (H : Hp) (vs : List V) (Q : VK) (E : XK), Room k (A.deeper (envOfC q (defScope st) s.heap.objs.size f cdv)) → sp vs H Q E →
      ∃ t, PSs (cxOf (L2.CX P w) P w K mg base N q (defScope st) f cdv A outer s H E) (defBody st) t ∧ t { nx := fun _ H' => Q .non H', rt := Q } (start N vs) H) : CalF P w K mg base (L2.CX P w) (k + 1) f ps sp := by
  obtain ⟨fd, FD⟩ := F.fd
  exact ⟨fd, [], FD.ok S len hbody, FD.bindsN hb, .nil⟩
theorem CalF.mono {CX : CXT} {j k : Nat} {f : Addr} {ps : List Str} {sp : Sp} {dvs : List V} (G : CalF P w K mg base CX j f ps sp dvs) (h : j ≤ k) : CalF P w K mg base CX k f ps sp dvs := by
  obtain ⟨fd, ds, o, b, d⟩ := G
  exact ⟨fd, ds, o.mono h, b, d⟩
end
section
variable {X : Cx} {CX : CXT} {k : Nat} {f C : Addr} {ps : List Str} {sp : Sp} {dvs : List V} {E : XK} {x m : Str} {p pos apos : Pos} {e o : Expr} {es : List Expr} {ta : TE} {t : TA}
theorem pmeth {pl : Sem Bool} (G : CalF X.prog X.w X.K X.mg X.base CX k f ps sp dvs) (he : PE X o ta) (c : Cls X.K C) (hm : Meth X.K C m f) (hr : Room k X.A) (hx : Passes CX X E) (ha : PA X (e :: es) t)
    (hst : starEach (e :: es) X.env = (false, eval e X.env) :: starEach es X.env := by rfl) (hpl : (backTo pos (starEach es X.env)).any (·.1) = false := by rfl)
    (ht : eval (.Call (.Attribute o m apos) (e :: es) [] pos) X.env = (do
      let ov ← eval o X.env
      standAt apos.atName
      let (f, first) ← holding [ov] (getMethod ov m pl)
      callWith pos f first (backTo pos (starEach (e :: es) X.env)) (backToKw pos (keywordEach [] X.env))) := by rfl) :
    PE X (.Call (.Attribute o m apos) (e :: es) [] pos) (tMeth C m sp dvs E ta t) := by
  obtain ⟨fd, ds, F, b, d⟩ := G
  exact pe_meth he c hm F hr b d hx ha hst hpl ht
theorem pmeth0 {pl : Sem Bool} (G : CalF X.prog X.w X.K X.mg X.base CX k f ps sp dvs) (he : PE X o ta) (c : Cls X.K C) (hm : Meth X.K C m f) (hr : Room k X.A) (hx : Passes CX X E)
    (ht : eval (.Call (.Attribute o m apos) [] [] pos) X.env = (do
      let ov ← eval o X.env
      standAt apos.atName
      let (f, first) ← holding [ov] (getMethod ov m pl)
      callWith pos f first (backTo pos (starEach [] X.env)) (backToKw pos (keywordEach [] X.env))) := by rfl) :
    PE X (.Call (.Attribute o m apos) [] [] pos) (tMeth C m sp dvs E ta tNil) := by
  obtain ⟨fd, ds, F, b, d⟩ := G
  exact pe_meth0 he c hm F hr b d hx ht
theorem pmake (G : CalF X.prog X.w X.K X.mg X.base CX k f ps sp dvs) (M : Mk X.K C f) (hr : Room (k + 1) X.A) (hg : Gl X x) (hm : X.mg x = some (.ref C)) (hx : Passes CX X E) (ha : PA X (e :: es) t) (hdb : (x == ("__debug__" : Str)) = false := by decide)
    (he : starEach (e :: es) X.env = (false, eval e X.env) :: starEach es X.env := by rfl) (hpl : (backTo pos (starEach es X.env)).any (·.1) = false := by rfl) :
    PE X (.Call (.Name x p) (e :: es) [] pos) (tMake C sp dvs E t) := by
  obtain ⟨fd, ds, F, b, d⟩ := G
  first
    | exact pe_make M F hr hg hm b d hx ha hdb he hpl
    | exact pe_make M F hr hg hm b d hx ha
theorem pprop {q g : Addr} {n : Str} (G : CalF X.prog X.w X.K X.mg X.base CX k g ps sp dvs) (he : PE X e ta) (c : Cls X.K C) (hp : PropOf X.K C n q g) (hr : Room (k + 1) X.A) (hx : Passes CX X.nox E)
    (hab : attributeBase e n X.env (eval e X.env) = eval e X.env := by rfl) : PE X (.Attribute e n pos) (tProp C sp dvs E ta) := by
  obtain ⟨fd, ds, F, b, d⟩ := G
  exact pe_prop he c hp F hr b d hx hab
end
/-! ### the kit -/
structure Kit (K : PySem.W.Frag) (mg : Str → Option Value) : Prop where
  fr : Fr mg
  gB : mg "Blob" = some (.ref (ca K "Blob"))
  gT : mg "Tree" = some (.ref (ca K "Tree"))
  gC : mg "Commit" = some (.ref (ca K "Commit"))
  gG : mg "Tag" = some (.ref (ca K "Tag"))
  gS : mg "Store" = some (.ref (ca K "Store"))
  cB : Cls K (ca K "Blob")
  cT : Cls K (ca K "Tree")
  cS : Cls K (ca K "Store")
  nB : NoAttr K (ca K "Blob") "held"
  nT : NoAttr K (ca K "Tree") "held"
  nS1 : NoAttr K (ca K "Store") "short"
  nS2 : NoAttr K (ca K "Store") "kept"
  mkB : Mk K (ca K "Blob") (mAt K (ca K "Blob") "__init__")
  mkT : Mk K (ca K "Tree") (mAt K (ca K "Tree") "__init__")
  mkS : Mk K (ca K "Store") (mAt K (ca K "Store") "__init__")
  eqB : EqC K (ca K "Blob") (mAt K (ca K "Blob") "__eq__")
  eqT : EqC K (ca K "Tree") (mAt K (ca K "Tree") "__eq__")
  fBB : PySem.W.notFirst K (ca K "Blob") (.ref (ca K "Blob")) = true
  fBT : PySem.W.notFirst K (ca K "Blob") (.ref (ca K "Tree")) = true
  fTB : PySem.W.notFirst K (ca K "Tree") (.ref (ca K "Blob")) = true
  fTT : PySem.W.notFirst K (ca K "Tree") (.ref (ca K "Tree")) = true
  iBB : PySem.W.kitOne K (.ref (ca K "Blob")) (.ref (ca K "Blob")) = some true
  iBT : PySem.W.kitOne K (.ref (ca K "Blob")) (.ref (ca K "Tree")) = some false
  iTB : PySem.W.kitOne K (.ref (ca K "Tree")) (.ref (ca K "Blob")) = some false
  iTT : PySem.W.kitOne K (.ref (ca K "Tree")) (.ref (ca K "Tree")) = some true
  iNT : PySem.W.kitOne K (.type "NoneType") (.ref (ca K "Tree")) = some false
  tyB : ∀ (H : Hp) (a dx : Addr) (fs : List (Str × V)), H a = some (.ins (ca K "Blob") dx fs) → TyOf K H (.ref a) (.ref (ca K "Blob"))
  tyT : ∀ (H : Hp) (a dx : Addr) (fs : List (Str × V)), H a = some (.ins (ca K "Tree") dx fs) → TyOf K H (.ref a) (.ref (ca K "Tree"))
  prB : PropOf K (ca K "Blob") "text" (mAt K (ca K "Blob") "text") (gAt K (ca K "Blob") "text")
  prT : PropOf K (ca K "Tree") "entries" (mAt K (ca K "Tree") "entries") (gAt K (ca K "Tree") "entries")
/-- the classes of the exceptions -/
structure Exs (P : Program) (w : World) (K : PySem.W.Frag) (mg : Str → Option Value) (base : Heap) : Prop where
  gN : mg "BadName" = some (.ref (ca K "BadName"))
  gP : mg "BadPath" = some (.ref (ca K "BadPath"))
  gO : mg "BadObject" = some (.ref (ca K "BadObject"))
  gX : mg "NoObject" = some (.ref (ca K "NoObject"))
  gC : mg "Clash" = some (.ref (ca K "Clash"))
  eN : PySem.FKX.ExMk P w K base (ca K "BadName") fsWhy
  eP : PySem.FKX.ExMk P w K base (ca K "BadPath") fsWhy
  eO : PySem.FKX.ExMk P w K base (ca K "BadObject") fsAt
  eX : PySem.FKX.ExMk P w K base (ca K "NoObject") fsName
end FK

/-! Forkhaul k08: sorted texts, tables; entries, trees and blobs in the heap. -/
namespace FK
open PySem PySem.Spec PyProof.Rows L2

/-! ### sorted -/
def leS (a b : Str) : Bool := !ltCps b.cps.toList a.cps.toList
theorem leS_iff {a b : Str} : leS a b = true ↔ ¬ (b.cps.toList < a.cps.toList) := by
  unfold leS
  rw [ltCps_eq]
  simp
theorem leS_trans {a b c : Str} (h1 : leS a b = true) (h2 : leS b c = true) : leS a c = true := by
  rw [leS_iff] at *
  rw [List.not_lt] at *
  exact List.le_trans h1 h2
theorem leS_total (a b : Str) : leS a b = true ∨ leS b a = true := by
  rw [leS_iff, leS_iff, List.not_lt, List.not_lt]
  exact List.le_total _ _
theorem str_ext {a b : Str} (h : a.cps.toList = b.cps.toList) : a = b := by
  cases a; cases b
  congr 1
  exact Array.toList_inj.mp h
theorem leS_anti {a b : Str} (h1 : leS a b = true) (h2 : leS b a = true) : a = b := by
  rw [leS_iff, List.not_lt] at *
  exact str_ext (List.le_antisymm h1 h2)
theorem pw_of_rising : ∀ (p : Str) (l : List Str), risingS p l = true → (p :: l).Pairwise (fun a b => leS a b = true)
  | p, [], _ => List.pairwise_singleton _ _
  | p, x :: r, h => by
    have h' : (!ltCps x.cps.toList p.cps.toList && risingS x r) = true := h
    rw [Bool.and_eq_true] at h'
    have ih := pw_of_rising x r h'.2
    rw [List.pairwise_cons]
    refine ⟨fun y hy => ?_, ih⟩
    rcases List.mem_cons.mp hy with rfl | hy
    · exact h'.1
    · exact leS_trans h'.1 ((List.pairwise_cons.mp ih).1 y hy)
theorem pw_of_sorted : ∀ {l : List Str}, sortedS l = true → l.Pairwise (fun a b => leS a b = true)
  | [], _ => .nil
  | x :: r, h => pw_of_rising x r h
def srt (l : List Str) : List Str := l.mergeSort leS
theorem srt_perm (l : List Str) : (srt l).Perm l := List.mergeSort_perm _ _
theorem srt_pw (l : List Str) : (srt l).Pairwise (fun a b => leS a b = true) := List.pairwise_mergeSort (le := leS) (fun _ _ _ h1 h2 => leS_trans h1 h2) (fun a b => by
  rcases leS_total a b with h | h
  · rw [h]; rfl
  · rw [h, Bool.or_true]) l
theorem pw_unique {l m : List Str} (p : l.Perm m) (h1 : l.Pairwise (fun a b => leS a b = true)) (h2 : m.Pairwise (fun a b => leS a b = true)) : l = m :=
  p.eq_of_pairwise (fun a b _ _ => leS_anti) h1 h2
theorem srt_unique {ys l : List Str} (p : ys.Perm l) (s : sortedS ys = true) : ys = srt l := pw_unique (p.trans (srt_perm l).symm) (pw_of_sorted s) (srt_pw l)
theorem srt_of_perm {l m : List Str} (p : l.Perm m) : srt l = srt m := pw_unique (((srt_perm l).trans p).trans (srt_perm m).symm) (srt_pw l) (srt_pw m)
theorem srt_mem {l : List Str} {x : Str} : x ∈ srt l ↔ x ∈ l := (srt_perm l).mem_iff
theorem srt_len (l : List Str) : (srt l).length = l.length := (srt_perm l).length_eq
theorem srt_nodup {l : List Str} (h : l.Nodup) : (srt l).Nodup := (srt_perm l).nodup_iff.mpr h
theorem srt_of_pw {l : List Str} (h : l.Pairwise (fun a b => leS a b = true)) : srt l = l := pw_unique (srt_perm l) (srt_pw l) h

/-! ### tables by texts -/
section
variable {α : Type}
def valS (l : List (Str × α)) (k : Str) : Option α := (l.find? fun x => decide (x.1 = k)).map (·.2)
def putS (l : List (Str × α)) (k : Str) (v : α) : List (Str × α) := if (l.any fun x => decide (x.1 = k)) = true then l.map (fun x => if x.1 = k then (x.1, v) else x) else l ++ [(k, v)]
theorem valS_nil {k : Str} : valS ([] : List (Str × α)) k = none := rfl
theorem valS_cons {p : Str × α} {r : List (Str × α)} {k : Str} : valS (p :: r) k = if p.1 = k then some p.2 else valS r k := by
  unfold valS
  rw [List.find?_cons]
  by_cases h : p.1 = k
  · simp [h]
  · simp [h]
theorem valS_some {l : List (Str × α)} {k : Str} {v : α} (h : valS l k = some v) : (k, v) ∈ l := by
  induction l with
  | nil => cases h
  | cons p r ih =>
    rw [valS_cons] at h
    by_cases c : p.1 = k
    · rw [if_pos c] at h
      obtain rfl := Option.some.inj h
      rw [← c]
      exact List.mem_cons_self
    · rw [if_neg c] at h
      exact List.mem_cons_of_mem _ (ih h)
theorem valS_of_mem {l : List (Str × α)} (n : (l.map (·.1)).Nodup) {k : Str} {v : α} (h : (k, v) ∈ l) : valS l k = some v := by
  induction l with
  | nil => cases h
  | cons p r ih =>
    rw [List.map_cons, List.nodup_cons] at n
    rw [valS_cons]
    rcases List.mem_cons.mp h with rfl | h
    · rw [if_pos rfl]
    · rw [if_neg (fun c => n.1 (by rw [c]; exact List.mem_map_of_mem h))]
      exact ih n.2 h
theorem valS_none {l : List (Str × α)} {k : Str} : valS l k = none ↔ k ∉ l.map (·.1) := by
  induction l with
  | nil => simp [valS_nil]
  | cons p r ih =>
    rw [valS_cons, List.map_cons, List.mem_cons]
    by_cases c : p.1 = k
    · rw [if_pos c]
      simp [c]
    · rw [if_neg c, ih]
      have : ¬ k = p.1 := fun e => c e.symm
      simp [this]
theorem any_valS (k : Str) (l : List (Str × α)) : (l.any fun x => decide (x.1 = k)) = (valS l k).isSome := by
  induction l with
  | nil => rfl
  | cons p r ih =>
    rw [List.any_cons, valS_cons, ih]
    by_cases c : p.1 = k
    · simp [c]
    · simp [c]
theorem putS_new {l : List (Str × α)} {k : Str} {v : α} (h : valS l k = none) : putS l k v = l ++ [(k, v)] := by
  unfold putS
  rw [any_valS, h]
  rfl
theorem putS_old {l : List (Str × α)} {k : Str} {v u : α} (h : valS l k = some u) : putS l k v = l.map (fun x => if x.1 = k then (x.1, v) else x) := by
  unfold putS
  rw [any_valS, h]
  rfl
theorem valS_map {l : List (Str × α)} {k j : Str} {v : α} : valS (l.map fun x => if x.1 = k then (x.1, v) else x) j = (valS l j).map fun x => if j = k then v else x := by
  induction l with
  | nil => rfl
  | cons p r ih =>
    rw [List.map_cons, valS_cons, valS_cons, ih]
    by_cases c : p.1 = k
    · simp only [c, if_true]
      by_cases d : k = j
      · subst d; simp
      · simp [d]
    · simp only [c, if_false]
      by_cases d : p.1 = j
      · subst d; simp [c]
      · simp [d]
theorem valS_app {l m : List (Str × α)} {k : Str} : valS (l ++ m) k = match valS l k with | some v => some v | none => valS m k := by
  induction l with
  | nil => rfl
  | cons p r ih =>
    rw [List.cons_append, valS_cons, valS_cons, ih]
    by_cases c : p.1 = k
    · simp [c]
    · simp [c]
theorem valS_put {l : List (Str × α)} {k j : Str} {v : α} : valS (putS l k v) j = if j = k then some v else valS l j := by
  cases h : valS l k with
  | none =>
    rw [putS_new h, valS_app, valS_cons, valS_nil]
    by_cases c : j = k
    · subst c; simp [h]
    · have c' : ¬ k = j := fun e => c e.symm
      simp only [c, c', if_false]
      cases valS l j <;> rfl
  | some u =>
    rw [putS_old h, valS_map]
    by_cases c : j = k
    · subst c; rw [h]; simp
    · simp only [c, if_false]
      cases valS l j <;> rfl
theorem keys_put_old {l : List (Str × α)} {k : Str} {v u : α} (h : valS l k = some u) : (putS l k v).map (·.1) = l.map (·.1) := by
  rw [putS_old h, List.map_map]
  refine List.map_congr_left fun x _ => ?_
  show (if x.1 = k then (x.1, v) else x).1 = x.1
  split <;> rfl
theorem keys_put_new {l : List (Str × α)} {k : Str} {v : α} (h : valS l k = none) : (putS l k v).map (·.1) = l.map (·.1) ++ [k] := by
  rw [putS_new h, List.map_append]
  rfl
theorem putS_nodup {l : List (Str × α)} {k : Str} {v : α} (n : (l.map (·.1)).Nodup) : ((putS l k v).map (·.1)).Nodup := by
  cases h : valS l k with
  | none =>
    rw [keys_put_new h]
    rw [List.nodup_append]
    refine ⟨n, by simp, fun a ha b hb => ?_⟩
    obtain rfl := List.mem_singleton.mp hb
    exact fun e => valS_none.mp h (e ▸ ha)
  | some u => rw [keys_put_old h]; exact n
theorem putS_len {l : List (Str × α)} {k : Str} {v : α} : (putS l k v).length ≤ l.length + 1 := by
  unfold putS
  split
  · rw [List.length_map]; omega
  · rw [List.length_append]; exact Nat.le_refl _
theorem putS_mem {l : List (Str × α)} {k : Str} {v : α} {x : Str × α} (h : x ∈ putS l k v) : x = (k, v) ∨ x ∈ l := by
  cases c : valS l k with
  | none =>
    rw [putS_new c] at h
    rcases List.mem_append.mp h with h | h
    · exact .inr h
    · exact .inl (List.mem_singleton.mp h)
  | some u =>
    rw [putS_old c] at h
    obtain ⟨y, hy, rfl⟩ := List.mem_map.mp h
    by_cases e : y.1 = k
    · rw [if_pos e]; exact .inl (by rw [e])
    · rw [if_neg e]; exact .inr hy
/-- a raw table and its meaning -/
def DR (R : V → α → Prop) : List (Key × V) → List (Str × α) → Prop := Paired fun p f => p.1 = .inr f.1 ∧ R p.2 f.2
variable {R : V → α → Prop} {kvs : List (Key × V)} {l : List (Str × α)}
theorem DR.imp {R' : V → α → Prop} (d : DR R kvs l) (h : ∀ v x, R v x → R' v x) : DR R' kvs l := L2.Paired.mapP d fun p f q => ⟨q.1, h _ _ q.2⟩
theorem paired_len {α β : Type} {F : α → β → Prop} : ∀ {l : List α} {m : List β}, Paired F l m → l.length = m.length
  | _, _, .nil => rfl
  | _, _, .cons _ r => by rw [List.length_cons, List.length_cons, paired_len r]
theorem DR.len (d : DR R kvs l) : kvs.length = l.length := paired_len d
theorem DR.keys : ∀ {kvs : List (Key × V)} {l : List (Str × α)}, DR R kvs l → kvs.map (·.1) = (l.map (·.1)).map Sum.inr
  | _, _, .nil => rfl
  | _, _, .cons h r => by rw [List.map_cons, List.map_cons, List.map_cons, DR.keys r, h.1]
theorem DR.val : ∀ {kvs : List (Key × V)} {l : List (Str × α)}, DR R kvs l → ∀ k : Str, (valV kvs (.inr k) = none ∧ valS l k = none) ∨ ∃ v x, valV kvs (.inr k) = some v ∧ valS l k = some x ∧ R v x
  | _, _, .nil, k => .inl ⟨rfl, rfl⟩
  | p :: kvs, f :: l, .cons h r, k => by
    rw [valS_cons]
    by_cases c : f.1 = k
    · have e : p.1 = .inr k := by rw [h.1, c]
      rw [valV_pos e, if_pos c]
      exact .inr ⟨_, _, rfl, rfl, h.2⟩
    · have e : ¬ p.1 = .inr k := fun q => c (by rw [h.1] at q; exact Sum.inr.inj q)
      rw [valV_neg e, if_neg c]
      exact DR.val r k
theorem DR.val_some (d : DR R kvs l) {k : Str} {x : α} (h : valS l k = some x) : ∃ v, valV kvs (.inr k) = some v ∧ R v x := by
  rcases d.val k with ⟨_, e⟩ | ⟨v, y, e1, e2, r⟩
  · rw [e] at h; cases h
  · rw [e2] at h; cases h; exact ⟨v, e1, r⟩
theorem DR.val_none (d : DR R kvs l) {k : Str} (h : valS l k = none) : valV kvs (.inr k) = none := by
  rcases d.val k with ⟨e, _⟩ | ⟨v, y, e1, e2, r⟩
  · exact e
  · rw [e2] at h; cases h
theorem DR.isSome (d : DR R kvs l) (k : Str) : (valV kvs (.inr k)).isSome = (valS l k).isSome := by
  rcases d.val k with ⟨e, f⟩ | ⟨v, y, e1, e2, r⟩
  · rw [e, f]; rfl
  · rw [e1, e2]; rfl
theorem paired_snoc {α β : Type} {F : α → β → Prop} {a : α} {b : β} (h : F a b) : ∀ {l : List α} {m : List β}, Paired F l m → Paired F (l ++ [a]) (m ++ [b])
  | _, _, .nil => .cons h .nil
  | _, _, .cons x r => .cons x (paired_snoc h r)
theorem DR.repl {k : Str} {v : V} {x : α} (h : R v x) : ∀ {kvs : List (Key × V)} {l : List (Str × α)}, DR R kvs l → DR R (kvs.map fun kv => if kv.1 = .inr k then (kv.1, v) else kv) (l.map fun f => if f.1 = k then (f.1, x) else f)
  | _, _, .nil => .nil
  | p :: kvs, f :: l, .cons q r => by
    refine .cons ?_ (DR.repl h r)
    by_cases c : f.1 = k
    · have e : p.1 = .inr k := by rw [q.1, c]
      dsimp only
      rw [if_pos e, if_pos c]
      exact ⟨q.1, h⟩
    · have e : ¬ p.1 = .inr k := fun z => c (by rw [q.1] at z; exact Sum.inr.inj z)
      dsimp only
      rw [if_neg e, if_neg c]
      exact q
theorem DR.put (d : DR R kvs l) {k : Str} {v : V} {x : α} (h : R v x) : DR R (putK kvs (.inr k) v) (putS l k x) := by
  rcases d.val k with ⟨e, f⟩ | ⟨v', y, e1, e2, r⟩
  · rw [putK_new v e, putS_new f]
    exact paired_snoc ⟨rfl, h⟩ d
  · rw [putS_old e2]
    unfold putK
    rw [valV_any, e1]
    exact DR.repl h d
theorem DR.get (d : DR R kvs l) {i : Nat} {k : Key} {v : V} (h : kvs[i]? = some (k, v)) : ∃ f, l[i]? = some f ∧ k = .inr f.1 ∧ R v f.2 := by
  obtain ⟨f, hf, e, r⟩ := paired_get d h
  exact ⟨f, hf, e, r⟩
end

/-! ### entries, trees, blobs in the heap -/
abbrev Ent := Str × Str × Str
/-- a tuple of a kind and an id -/
def PairAt (H : Hp) (v : V) (p : Str × Str) : Prop := ∃ q, v = .ref q ∧ H q = some (.tup [.str p.1, .str p.2])
def EntAt (H : Hp) (v : V) (e : Ent) : Prop := ∃ q, v = .ref q ∧ H q = some (.tup [.str e.1, .str e.2.1, .str e.2.2])
theorem PairAt.same {H H' : Hp} {v : V} {p : Str × Str} (h : PairAt H v p) (s : Same H H') : PairAt H' v p := by
  obtain ⟨q, e, h⟩ := h
  exact ⟨q, e, s _ _ h⟩
theorem EntAt.same {H H' : Hp} {v : V} {p : Ent} (h : EntAt H v p) (s : Same H H') : EntAt H' v p := by
  obtain ⟨q, e, h⟩ := h
  exact ⟨q, e, s _ _ h⟩
inductive Th where
  | blob
  | tree (es : List Ent)
deriving DecidableEq
def BlobAt (K : PySem.W.Frag) (H : Hp) (a : Addr) : Prop := ∃ dx, H a = some (.ins (ca K "Blob") dx [("held", .str "x")])
def TreeAt (K : PySem.W.Frag) (H : Hp) (a : Addr) (es : List Ent) : Prop := ∃ dx t rs, H a = some (.ins (ca K "Tree") dx [("held", .ref t)]) ∧ H t = some (.tup rs) ∧ Paired (EntAt H) rs es
def ThAt (K : PySem.W.Frag) (H : Hp) (a : Addr) : Th → Prop
  | .blob => BlobAt K H a
  | .tree es => TreeAt K H a es
theorem ThAt.same {K : PySem.W.Frag} {H H' : Hp} {a : Addr} (s : Same H H') : ∀ {t : Th}, ThAt K H a t → ThAt K H' a t
  | .blob, ⟨dx, h⟩ => ⟨dx, s _ _ h⟩
  | .tree es, ⟨dx, t, rs, h1, h2, h3⟩ => ⟨dx, t, rs, s _ _ h1, s _ _ h2, L2.Paired.mapP h3 fun _ _ q => q.same s⟩
/-- a tree's entries are in order -/
def isKind (k : Str) : Bool := decide (k = "file") || decide (k = "exec") || decide (k = "dir")
structure EntOk (e : Ent) : Prop where
  seg : isSegS e.1 = true
  kind : isKind e.2.1 = true
  id : isIdS e.2.2 = true
def ents (l : List (Str × Str × Str)) : List Ent := (srt (l.map (·.1))).filterMap fun n => (valS l n).map fun p => (n, p)
end FK

/-! Forkhaul k08: is_entry, Tree.__init__. -/
namespace FK
open PySem PySem.Spec PyProof.Rows L2
open PySem.W (Frag)

def kindsV : List V := [.str "file", .str "exec", .str "dir"]
theorem kinds_in {k : Str} (h : isKind k = true) : inV (.str k) kindsV = true := by
  unfold isKind at h
  rw [Bool.or_eq_true, Bool.or_eq_true] at h
  rcases h with (h | h) | h
  all_goals
    obtain rfl := of_decide_eq_true h
    decide +kernel
theorem iteT' {A B : Prop} (h : A) : if (true : Bool) = true then A else B := by rw [if_pos rfl]; exact h
theorem passX {X : Cx} {E : XK} (tk : Takes X (fun cls d _ H => E cls d H)) : Passes (L2.CX X.prog X.w) X E := fun pins σ H s e s' I h => passAt tk σ pins H s e s' I h

section
variable {P : Program} {w : World} {K : Frag} {mg : Str → Option Value} {base : Heap}
def spEntry : Sp := fun vs H Q _ => ∃ v p, vs = [v] ∧ PairAt H v p ∧ isKind p.1 = true ∧ isIdS p.2 = true ∧ ∀ H', Same H H' → Q (.bl true) H'
abbrev nIsEntry : List Str := ["thing"]
theorem scIsEntry : FnScope nIsEntry ["thing"] (defScope sIsEntry) := ⟨rfl, rfl, rfl, by decide +kernel, rfl, by decide +kernel, by decide +kernel⟩
theorem idLen {z : Str} (h : isIdS z = true) : z.length = 16 := by
  unfold isIdS at h
  rw [Bool.and_eq_true] at h
  exact of_decide_eq_true h.1
theorem ok_is_entry (F : GF K mg "is_entry" sIsEntry) (G : Cal P w K mg base CX0 2 "is_id" ["thing"] (spS K isIdS)) (B : Fr mg) {ka : Addr} (gk : mg "KINDS" = some (.ref ka)) (hk : ∀ H, SqT K H ka kindsV) :
    Cal P w K mg base CX0 3 "is_entry" ["thing"] spEntry := by
  refine cal0 F scIsEntry (fun _ _ _ _ _ _ us hl => match us, hl with | [_], _ => rfl) (fun vs H Q E h => ?_) (fun cdv A outer s H vs Q E hr h => ?_)
  · obtain ⟨v, p, rfl, _⟩ := h
    rfl
  · obtain ⟨v, p, rfl, ⟨q, rfl, hq⟩, h1, h2, k⟩ := h
    refine ⟨_, pss_cons (ps_if (PW.pt (pw_or (pt_not (pt_val (pe_callB call_isi (by rfl) B.isi (by decide +kernel) (pa_cons (pv 0) (pa_cons (pe_bltn (v := .ty "tuple") (by rfl) B.tuple (by decide +kernel) rfl) pa_nil)))))
        (pw_or1 (pt_cmpR op_ne (pe_callB call_len_seq (by rfl) B.len boot_len (pa_cons (pv 0) pa_nil)) pe_int (nomark _))))) (pss_one (ps_ret pe_bl)) pss_nil)
      (pss_one (ps_ret (pe_and (pe_callB call_isi (by rfl) B.isi (by decide +kernel) (pa_cons (pe_ix ix_tup (pv 0) pe_int (by intro _ _; rfl)) (pa_cons (pe_bltn (v := .ty "str") (by rfl) B.str boot_str rfl) pa_nil)))
        (pe_and (pe_cmpR op_in_seq (pe_ix ix_tup (pv 0) pe_int (by intro _ _; rfl)) (pe_glob (v := .ref ka) (by rfl) gk rfl) rfl)
        (pe_one (pcal G hr (by rfl) pass0 (pa_cons (pe_ix ix_tup (pv 0) pe_int (by intro _ _; rfl)) pa_nil))))))), ?_⟩
    refine ⟨_, rfl, _, _, _, _, _, rfl, .ty _, .base (.tup hq), kit_ty (show kitB "tuple" "tuple" = some true by decide +kernel), _, rfl, ?_⟩
    refine iteF ?_
    refine ⟨_, rfl, q, _, rfl, .inr (SqT.of hq), rfl, _, rfl, ?_⟩
    refine iteF ?_
    refine ⟨_, rfl, q, _, _, _, rfl, rfl, SqT.of hq, rfl, ?_⟩
    refine ⟨_, _, _, _, _, rfl, .ty _, .base (.str _), kit_ty (show kitB "str" "str" = some true by decide +kernel), _, rfl, ?_⟩
    refine iteT' ?_
    refine ⟨_, rfl, q, _, _, _, rfl, rfl, SqT.of hq, rfl, ka, _, rfl, .inr (hk _), rfl, by decide +kernel, ?_⟩
    show ∃ c, V.bl (inV (.str p.1) kindsV) = .bl c ∧ _
    rw [kinds_in h1]
    refine ⟨_, rfl, ?_⟩
    refine iteT' ?_
    refine ⟨_, rfl, q, _, _, _, rfl, rfl, SqT.of hq, rfl, ?_⟩
    refine ⟨_, some p.2, rfl, ⟨rfl, by rw [idLen h2]; decide⟩, fun H' s1 => ?_⟩
    show Q (.bl (isIdS p.2)) H'
    rw [h2]
    exact k H' s1
/-- the new tree at x holds the sorted entries of the dict at d; too many of them: BadName -/
def spTInit (K : Frag) : Sp := fun vs H Q E => ∃ (x d dx : Addr) (kvs : List (Key × V)) (l : List (Str × Str × Str)), vs = [.ref x, .ref d] ∧ H x = some (.ins (ca K "Tree") dx []) ∧ H d = some (.dK kvs) ∧ DR (PairAt H) kvs l ∧ (l.map (·.1)).Nodup ∧ (∀ e ∈ l, EntOk e) ∧ l.length < 64 ∧
  (30 < l.length → ∀ H' dd, Same H H' → E (.ref (ca K "BadName")) (some dd) H') ∧
  (l.length ≤ 30 → ∀ H' t rs, (∀ b o, b ≠ x → H b = some o → H' b = some o) → H' x = some (.ins (ca K "Tree") dx [("held", .ref t)]) → H' t = some (.tup rs) → Paired (EntAt H') rs (ents l) → Q .non H')
theorem Same.unlock {H H' : Hp} {d : Addr} {od : Obj} {u : HO} (h : H d = some u) (s : Same (upd H d (.frz od u)) H') : Same H (upd H' d u) := fun b o e => by
  by_cases c : b = d
  · subst c; rw [h] at e; rw [upd_same]; exact e
  · rw [upd_ne c]; exact s b o (by rw [upd_ne c]; exact e)
theorem ents_get {l : List (Str × Str × Str)} (n : (l.map (·.1)).Nodup) : (ents l).length = l.length ∧ ∀ (i : Nat) (z : Str), (srt (l.map (·.1)))[i]? = some z → ∃ p, valS l z = some p ∧ (ents l)[i]? = some (z, p) := by
  have key : ∀ zs : List Str, (∀ z ∈ zs, z ∈ l.map (·.1)) → (zs.filterMap fun n => (valS l n).map fun p => (n, p)).length = zs.length ∧ ∀ (i : Nat) (z : Str), zs[i]? = some z → ∃ p, valS l z = some p ∧ (zs.filterMap fun n => (valS l n).map fun p => (n, p))[i]? = some (z, p) := by
    intro zs
    induction zs with
    | nil => exact fun _ => ⟨rfl, fun i z h => by simp at h⟩
    | cons y r ih =>
      intro hm
      obtain ⟨h1, h2⟩ := ih fun z hz => hm z (List.mem_cons_of_mem _ hz)
      have : ∃ p, valS l y = some p := by
        cases e : valS l y with
        | none => exact absurd (hm y List.mem_cons_self) (valS_none.mp e)
        | some p => exact ⟨p, rfl⟩
      obtain ⟨p, hp⟩ := this
      have e : (List.filterMap (fun n => (valS l n).map fun p => (n, p)) (y :: r)) = (y, p) :: List.filterMap (fun n => (valS l n).map fun p => (n, p)) r := by
        rw [List.filterMap_cons, hp]; rfl
      rw [e]
      refine ⟨by rw [List.length_cons, List.length_cons, h1], fun i z hi => ?_⟩
      cases i with
      | zero =>
        obtain rfl : y = z := by simpa using hi
        exact ⟨p, hp, rfl⟩
      | succ i => exact h2 i z (by simpa using hi)
  obtain ⟨h1, h2⟩ := key _ fun z hz => srt_mem.mp hz
  exact ⟨by unfold ents; rw [h1, srt_len, List.length_map], h2⟩
theorem PairAt.mut {H : Hp} {v : V} {p : Str × Str} {d : Addr} {o u : HO} (h : PairAt H v p) (hd : H d = some u) (hu : ∀ xs, u ≠ .tup xs) : PairAt (upd H d o) v p := by
  obtain ⟨q, e, hq⟩ := h
  refine ⟨q, e, ?_⟩
  rw [upd_ne (ne_of hq hd (hu _).symm)]
  exact hq
theorem EntAt.mut {H : Hp} {v : V} {p : Ent} {d : Addr} {o u : HO} (h : EntAt H v p) (hd : H d = some u) (hu : ∀ xs, u ≠ .tup xs) : EntAt (upd H d o) v p := by
  obtain ⟨q, e, hq⟩ := h
  refine ⟨q, e, ?_⟩
  rw [upd_ne (ne_of hq hd (hu _).symm)]
  exact hq
theorem segLen {z : Str} (h : isSegS z = true) : z.length ≤ 12 := by
  unfold isSegS at h
  simp only [Bool.and_eq_true] at h
  exact of_decide_eq_true h.1.1.1.2
abbrev nTInit : List Str := ["self", "entries", "name", "entry"]
theorem scTInit : FnScope nTInit ["self", "entries"] (defScope sTInit) := ⟨rfl, rfl, rfl, by decide +kernel, rfl, by decide +kernel, by decide +kernel⟩
theorem ok_tinit (F : MF K "__init__" "Tree.__init__" sTInit (mAt K (ca K "Tree") "__init__")) (GS : Cal P w K mg base CX0 2 "is_segment" ["thing"] (spS K isSegS)) (GE : Cal P w K mg base CX0 3 "is_entry" ["thing"] spEntry)
    (T : Kit K mg) (X : Exs P w K mg base) {t1 : Tok} (g1 : mg "MOST_ENTRIES" = some (.int 30 t1)) :
    CalF P w K mg base (L2.CX P w) 4 (mAt K (ca K "Tree") "__init__") ["self", "entries"] (spTInit K) := by
  refine calFX F scTInit (fun _ _ _ _ _ _ us hl => match us, hl with | [_, _], _ => rfl) (fun vs H Q E h => ?_) (fun cdv A outer s H vs Q E hr h => ?_)
  · obtain ⟨x, d, dx, kvs, l, rfl, _⟩ := h
    rfl
  · obtain ⟨x, d, dx, kvs, l, rfl, hx, hd, hl, hn, hv, h64, kE, kQ⟩ := h
    have B := T.fr
    refine ⟨_, pss_cons (ps_if (PW.pt (pw_or (pt_not (pt_val (pe_callB call_isi (by rfl) B.isi (by decide +kernel) (pa_cons (pv 1) (pa_cons (pe_bltn (v := .ty "dict") (by rfl) B.dict (by decide +kernel) rfl) pa_nil)))))
        (pw_or1 (pt_cmpR op_gt (pe_callB call_lenD (by rfl) B.len boot_len (pa_cons (pv 1) pa_nil)) (pe_glob (v := .int 30) (by rfl) g1 ⟨_, rfl⟩) (nomark _)))))
          (pss_one (ps_raiseE rfl X.eN X.gN hr (takes_of rfl rfl rfl rfl) (by exact (pa_cons pe_str pa_nil)))) pss_nil)
      (pss_cons (ps_if (pt_not (pt_val (pe_lock (pe_callB (cr_all rfl) (by rfl) B.all (by decide +kernel) (pa_cons (pe_lc (own := [("name", 2), ("entry", 3)]) (g := gTup K 2 (gCons (gName 2) (gCons (gName 3) gNil))) (tt := tYes) rfl scTInit.nd (pi_items (pv 1)) (blkOk_by (N := nTInit) (sc := defScope sTInit) (by decide +kernel))
          (fun _ _ _ _ _ => pg_tup rfl (pgs_cons (pg_name (i := 2) scTInit.nd rfl (Or.inl rfl)) (pgs_cons (pg_name (i := 3) scTInit.nd rfl (Or.inl rfl)) pgs_nil))) (fun _ _ _ _ _ => pts_nil)
          (fun _ _ _ _ _ => pe_and (pcal (GS.mono (by decide : 2 ≤ 3)) hr (by rfl) pass0 (pa_cons (pv 2) pa_nil)) (pe_one (pcal GE hr (by rfl) pass0 (pa_cons (pv 3) pa_nil))))) pa_nil)))))
          (pss_one (ps_raiseE rfl X.eN X.gN hr (takes_of rfl rfl rfl rfl) (by exact (pa_cons pe_str pa_nil)))) pss_nil)
      (pss_one (ps_fld (pv 0) (pe_callTy call_tuple_of (by rfl) B.tuple (by decide +kernel) (pa_cons (pe_lc (own := [("name", 2)]) (g := gName 2) (tt := tYes) (te := tTup (tCons (tVar 2) (tCons (tOp (rIxT K) (tDGet (tVar 1) (tVar 2)) (tC (.int 0))) (tCons (tOp (rIxT K) (tDGet (tVar 1) (tVar 2)) (tC (.int 1))) tNil)))) rfl scTInit.nd (pi_list (pe_callB (call_sortedD rfl) (by rfl) B.sorted (by decide +kernel) (pa_cons (pv 1) pa_nil))) (blkOk_by (N := nTInit) (sc := defScope sTInit) (by decide +kernel))
          (fun _ _ _ _ _ => pg_name (i := 2) scTInit.nd rfl (Or.inl rfl)) (fun _ _ _ _ _ => pts_nil)
          (fun _ _ _ _ _ => pe_tup (pa_cons (pv 2) (pa_cons (pe_ix ix_tup (pe_dget (hu_of hr) (pv 1) (pv 2) (by intro _ _; rfl)) pe_int (by intro _ _; rfl)) (pa_cons (pe_ix ix_tup (pe_dget (hu_of hr) (pv 1) (pv 2) (by intro _ _; rfl)) pe_int (by intro _ _; rfl)) pa_nil))))) pa_nil)) (by rfl)))), ?_⟩
    have hkl : kvs.length = l.length := hl.len
    refine ⟨_, rfl, _, _, _, _, _, rfl, .ty _, .base (.dK hd), kit_ty (show kitB "dict" "dict" = some true by decide +kernel), _, rfl, ?_⟩
    refine iteF ?_
    refine ⟨_, rfl, d, kvs, rfl, hd, _, _, rfl, rfl, _, rfl, ?_⟩
    refine ite2 (fun c => ?_) (fun c => ?_)
    · -- too many
      have c' : 30 < l.length := by have := of_decide_eq_true c; omega
      exact ⟨_, rfl, fun dd hdd => kE c' _ dd (Same.new hdd)⟩
    have c' : l.length ≤ 30 := by
      rcases Nat.lt_or_ge 30 l.length with z | z
      · exact absurd (decide_eq_true (by omega)) c
      · exact z
    refine ⟨d, .dK kvs, hd, trivial, fun od => ?_⟩
    have hl' : DR (PairAt (upd H d (.frz od (.dK kvs)))) kvs l := hl.imp fun v p q => q.mut hd (fun _ z => by cases z)
    refine ⟨_, rfl, d, od, kvs, rfl, upd_same, fun D hD => lc_of (n := kvs.length) (fun i H' => Same (upd H d (.frz od (.dK kvs))) H' ∧ H' D = some (.lst ((List.replicate i true).map V.bl)))
      ⟨Same.new hD, upd_same⟩ (fun i H' hi q => ⟨q.1 _ _ upd_same, hi⟩) (fun H' q => ⟨q.1 _ _ upd_same, Nat.le_refl _⟩) ?_ ?_⟩
    · rintro i y H1 H2 hi ⟨s1, l1⟩ ⟨T0, kk, v, hkv, rfl, hT, rfl⟩
      obtain ⟨⟨nm, p⟩, hf, rfl, hp⟩ := hl'.get hkv
      have hv' := hv _ (List.mem_of_getElem? hf)
      have sT : Same H1 (upd H1 T0 (.tup [kV (.inr nm), v])) := Same.new hT
      refine ⟨T0, [kV (.inr nm), v], rfl, SqT.of upd_same, rfl, _, _, rfl, _, _, rfl, rfl, rfl, ?_⟩
      refine ⟨_, rfl, _, some nm, rfl, ⟨rfl, Nat.le_trans (segLen hv'.seg) (by decide)⟩, fun H3 s3 => ?_⟩
      show ∃ c, V.bl (isSegS nm) = .bl c ∧ _
      rw [hv'.seg]
      refine ⟨_, rfl, iteT' ?_⟩
      refine ⟨_, rfl, _, p, rfl, hp.same ((s1.trans sT).trans s3), hv'.kind, hv'.id, fun H4 s4 => ?_⟩
      have s5 := (sT.trans s3).trans s4
      refine ⟨_, s5 _ _ l1, ?_, ?_, ?_⟩
      · rw [List.length_map, List.length_replicate]
        exact line_lt (by omega)
      · exact (s1.trans s5).mut hD
      · rw [upd_same, List.replicate_succ', List.map_append]
        rfl
    rintro H1 ⟨s1, l1⟩
    refine ⟨D, _, rfl, SqL.of l1, s1 _ _ upd_same, ?_⟩
    have eall : (List.replicate kvs.length true).all id = true := by
      rw [List.all_eq_true]
      intro b hb
      exact (List.mem_replicate.mp hb).2
    rw [eall]
    refine ⟨_, rfl, ?_⟩
    refine iteF ?_
    have sU : Same H (upd H1 d (.dK kvs)) := Same.unlock hd s1
    generalize upd H1 d (.dK kvs) = Hu at sU
    -- the held tuple
    refine ⟨_, rfl, d, kvs, l.map (·.1), rfl, .inl (sU _ _ hd), hl.keys, by rw [List.length_map]; exact h64, fun ys p hperm hsort hp => ?_⟩
    obtain rfl := srt_unique hperm hsort
    obtain ⟨e1, e2⟩ := ents_get hn
    have hH : Same H (upd Hu p (.lst ((srt (l.map (·.1))).map V.str))) := sU.new' hp
    refine ⟨p, rfl, ⟨_, SqL.of upd_same⟩, fun D2 hD2 => lc_list (K := K) (a := p) (xs := (srt (l.map (·.1))).map V.str) (fun i H' => Same (upd Hu p (.lst ((srt (l.map (·.1))).map V.str))) H' ∧ ∃ rs, H' D2 = some (.lst rs) ∧ Paired (EntAt H') rs ((ents l).take i))
      ⟨Same.new hD2, [], upd_same, .nil⟩ (fun i H' _ q => q.1.seq (SqL.of upd_same)) ?_ ?_⟩
    · rintro i y H2 hy ⟨s2, rs, l2, p2⟩
      obtain ⟨z, hz, rfl⟩ : ∃ z, (srt (l.map (·.1)))[i]? = some z ∧ y = V.str z := by
        rw [List.getElem?_map] at hy
        cases e : (srt (l.map (·.1)))[i]? with
        | none => rw [e] at hy; cases hy
        | some z => rw [e] at hy; exact ⟨z, rfl, (Option.some.inj hy).symm⟩
      obtain ⟨pr, hpr, he⟩ := e2 i z hz
      obtain ⟨v, hv1, q, rfl, hq⟩ := hl.val_some hpr
      have hd2 : H2 d = some (.dK kvs) := s2 _ _ (hH _ _ hd)
      have hq2 : H2 q = some (.tup [.str pr.1, .str pr.2]) := s2 _ _ (hH _ _ hq)
      have dg : DGet H2 d (.str z) (some (.ref q)) := .inl ⟨kvs, .inr z, .inl hd2, rfl, hv1.symm⟩
      refine ⟨rfl, _, rfl, _, rfl, _, rfl, d, _, rfl, dg, q, _, _, _, rfl, rfl, SqT.of hq2, rfl, _, rfl, _, rfl, d, _, rfl, dg, q, _, _, _, rfl, rfl, SqT.of hq2, rfl, (by show 3 ≤ sizeLine; exact line_of (by decide)), fun r hr' => ?_⟩
      refine ⟨rs, (Same.new hr') _ _ l2, ?_, ?_, ?_⟩
      · rw [paired_len p2]
        exact line_lt (Nat.le_trans (List.length_take_le' _ _) (by omega))
      · exact (s2.trans (Same.new hr')).mut hD2
      · refine ⟨_, upd_same, ?_⟩
        rw [List.take_add_one, he]
        have l3 : (upd H2 r (.tup [.str z, .str pr.1, .str pr.2])) D2 = some (.lst rs) := (Same.new hr') _ _ l2
        have q1 : EntAt (upd (upd H2 r (.tup [.str z, .str pr.1, .str pr.2])) D2 (.lst (rs ++ [.ref r]))) (.ref r) (z, pr) := EntAt.mut (u := .lst rs) ⟨r, rfl, upd_same⟩ l3 (by intro _ z; cases z)
        have q2 : Paired (EntAt (upd (upd H2 r (.tup [.str z, .str pr.1, .str pr.2])) D2 (.lst (rs ++ [.ref r])))) rs ((ents l).take i) := L2.Paired.mapP p2 fun a b q => EntAt.mut (u := .lst rs) (q.same (Same.new hr')) l3 (by intro _ z; cases z)
        exact paired_snoc q1 q2
    rintro H2 ⟨s2, rs, l2, p2⟩
    refine ⟨D2, rs, rfl, .inl ⟨SqL.of l2, fun t ht => ?_⟩⟩
    have sA : Same H (upd H2 t (.tup rs)) := (hH.trans s2).new' ht
    refine ⟨_, rfl, x, ca K "Tree", dx, [], rfl, sA _ _ hx, T.cT, T.nT, by decide, ?_⟩
    refine kQ c' _ t rs (fun b o hb e => ?_) upd_same ?_ ?_
    · rw [upd_ne hb]
      exact sA _ _ e
    · rw [upd_ne (ne_of (upd_same (H := H2) (o := HO.tup rs)) (sA _ _ hx) (by intro z; cases z))]
      exact upd_same
    · have e3 : (ents l).take ((srt (l.map (·.1))).map V.str).length = ents l := by
        rw [List.length_map, srt_len, List.length_map]
        exact List.take_of_length_le (by omega)
      rw [e3] at p2
      exact L2.Paired.mapP p2 fun a b q => EntAt.mut (u := .ins (ca K "Tree") dx []) (q.same (Same.new ht)) (sA _ _ hx) (by intro _ z; cases z)
end
end FK

/-! Forkhaul k08: Tree.entries, the two __eq__, Blob, is_object. -/
namespace FK
open PySem PySem.Spec PyProof.Rows L2
open PySem.W (Frag)

/-! ### deep equality of tuples of texts -/
def txOk (x : Str) : Bool := x.cps.all (· < 0x110000)
theorem txOk_only {t s : Str} (h : hasOnly t s = true) (hs : s.cps.toList.all (· < 0x110000) = true) : txOk t = true := by
  unfold txOk
  rw [← Array.all_toList]
  unfold hasOnly at h
  rw [List.all_eq_true] at *
  exact fun c hc => hs c (of_decide_eq_true (h c hc))
theorem txOk_id {z : Str} (h : isIdS z = true) : txOk z = true := by
  unfold isIdS at h
  rw [Bool.and_eq_true] at h
  exact txOk_only h.2 (by decide +kernel)
theorem txOk_seg {z : Str} (h : isSegS z = true) : txOk z = true := by
  unfold isSegS at h
  simp only [Bool.and_eq_true] at h
  exact txOk_only h.1.1.2 (by decide +kernel)
theorem txOk_kind {k : Str} (h : isKind k = true) : txOk k = true := by
  unfold isKind at h
  rw [Bool.or_eq_true, Bool.or_eq_true] at h
  rcases h with (h | h) | h
  all_goals
    obtain rfl := of_decide_eq_true h
    decide +kernel
def entD (e : Ent) : PyData := .tuple [.str e.1, .str e.2.1, .str e.2.2]
theorem lay_all {α : Type} (f : α → PyData) (es : List α) (h : ∀ e ∈ es, PyData.canLay0 (f e) = true) : PyData.canLayAll0 (es.map f) = true := by
  induction es with
  | nil => rfl
  | cons e r ih =>
    show (PyData.canLay0 (f e) && PyData.canLayAll0 (r.map f)) = true
    rw [h e List.mem_cons_self, ih fun x hx => h x (List.mem_cons_of_mem _ hx)]
    rfl
theorem depth_all {α : Type} (f : α → PyData) (n : Nat) (es : List α) (h : ∀ e ∈ es, PyData.depth (f e) ≤ n) : PyData.depthAll (es.map f) ≤ n := by
  induction es with
  | nil => exact Nat.zero_le _
  | cons e r ih =>
    show max (PyData.depth (f e)) (PyData.depthAll (r.map f)) ≤ n
    exact Nat.max_le.mpr ⟨h e List.mem_cons_self, ih fun x hx => h x (List.mem_cons_of_mem _ hx)⟩
theorem eqv_all {α : Type} [DecidableEq α] (f : α → PyData) (h : ∀ a b, PyData.eqv (f a) (f b) = decide (a = b)) : ∀ xs ys : List α, PyData.eqvAll (xs.map f) (ys.map f) = decide (xs = ys)
  | [], [] => rfl
  | [], y :: ys => rfl
  | x :: xs, [] => rfl
  | x :: xs, y :: ys => by
    show (PyData.eqv (f x) (f y) && PyData.eqvAll (xs.map f) (ys.map f)) = _
    rw [h, eqv_all f h xs ys]
    by_cases c : x = y <;> by_cases d : xs = ys <;> simp [c, d]
theorem eqv_str (a b : Str) : PyData.eqv (.str a) (.str b) = decide (a = b) := by
  show (a == b) = _
  by_cases c : a = b
  · rw [decide_eq_true c, c]; exact beq_self_eq_true b
  · rw [decide_eq_false c]; exact beq_eq_false_iff_ne.mpr c
theorem eqv_ent (a b : Ent) : PyData.eqv (entD a) (entD b) = decide (a = b) := by
  show (PyData.eqv (.str a.1) (.str b.1) && (PyData.eqv (.str a.2.1) (.str b.2.1) && (PyData.eqv (.str a.2.2) (.str b.2.2) && true))) = _
  rw [eqv_str, eqv_str, eqv_str]
  obtain ⟨a1, a2, a3⟩ := a
  obtain ⟨b1, b2, b3⟩ := b
  by_cases c : a1 = b1 <;> by_cases d : a2 = b2 <;> by_cases e : a3 = b3 <;> simp [c, d, e]
theorem shaped_ents {es : List Ent} (h : ∀ e ∈ es, EntOk e) : SeqAt.shaped (.tuple (es.map entD)) = true := by
  unfold SeqAt.shaped
  rw [Bool.and_eq_true]
  refine ⟨lay_all entD es fun e he => ?_, decide_eq_true ?_⟩
  · have ho := h e he
    show (txOk e.1 && (txOk e.2.1 && (txOk e.2.2 && true))) = true
    rw [txOk_seg ho.seg, txOk_kind ho.kind, txOk_id ho.id]
    rfl
  · show PyData.depthAll (es.map entD) + 1 ≤ 64
    have := depth_all entD 1 es fun e _ => by
      show max 0 (max 0 (max 0 0)) + 1 ≤ 1
      decide
    omega
theorem dp_ents {K : Frag} {H : Hp} : ∀ {rs : List V} {es : List Ent}, Paired (EntAt H) rs es → DpAll K H rs (es.map entD)
  | _, _, .nil => .nil
  | _, _, .cons h r => by
    obtain ⟨q, rfl, hq⟩ := h
    exact .cons (.tup (SqT.of hq) (.cons (.str _) (.cons (.str _) (.cons (.str _) .nil)))) (dp_ents r)

section
variable {P : Program} {w : World} {K : Frag} {mg : Str → Option Value} {base : Heap}
/-! ### Tree.entries -/
def spTEnt (K : Frag) : Sp := fun vs H Q _ => ∃ a es, vs = [.ref a] ∧ TreeAt K H a es ∧ (es.map (·.1)).Nodup ∧ es.length ≤ 64 ∧ ∀ H' p kvs, Same H H' → H p = none → H' p = some (.dK kvs) → DR (PairAt H') kvs es → Q (.ref p) H'
abbrev nTEnt : List Str := ["self", "name", "kind", "target"]
theorem scTEnt : FnScope nTEnt ["self"] (defScope sTEnt) := ⟨rfl, rfl, rfl, by decide +kernel, rfl, by decide +kernel, by decide +kernel⟩
theorem take_nodup_fresh {α : Type} {l : List (Str × α)} (n : (l.map (·.1)).Nodup) {i : Nat} {f : Str × α} (h : l[i]? = some f) : valS (l.take i) f.1 = none := by
  rw [valS_none]
  intro hm
  obtain ⟨g, hg, e⟩ := List.mem_map.mp hm
  obtain ⟨j, hj⟩ := List.getElem?_of_mem hg
  have hjl : j < i := by
    have := (List.getElem?_eq_some_iff.mp hj).1
    have := List.length_take_le i l
    omega
  rw [List.getElem?_take_of_lt hjl] at hj
  have e1 : (l.map (·.1))[i]? = some f.1 := by rw [List.getElem?_map, h]; rfl
  have e2 : (l.map (·.1))[j]? = some f.1 := by rw [List.getElem?_map, hj]; exact congrArg some e
  obtain ⟨hi1, hi2⟩ := List.getElem?_eq_some_iff.mp e1
  obtain ⟨hj1, hj2⟩ := List.getElem?_eq_some_iff.mp e2
  have := (List.nodup_iff_pairwise_ne.mp n)
  have := List.pairwise_iff_getElem.mp this j i hj1 hi1 hjl
  exact this (hj2.trans hi2.symm)
theorem ok_tent (F : MF K "entries" "Tree.entries" sTEnt (gAt K (ca K "Tree") "entries")) (T : Kit K mg) : CalF P w K mg base CX0 1 (gAt K (ca K "Tree") "entries") ["self"] (spTEnt K) := by
  refine calF0 F scTEnt (fun _ _ _ _ _ _ us hl => match us, hl with | [_], _ => rfl) (fun vs H Q E h => ?_) (fun cdv A outer s H vs Q E hr h => ?_)
  · obtain ⟨a, es, rfl, _⟩ := h
    rfl
  · obtain ⟨a, es, rfl, ⟨dx, t, rs, ha, ht, hp⟩, hn, hl, k⟩ := h
    refine ⟨_, pss_one (ps_ret (pe_dc (own := [("name", 1), ("kind", 2), ("target", 3)]) (g := gTup K 3 (gCons (gName 1) (gCons (gName 2) (gCons (gName 3) gNil)))) (tt := tYes) (tk := tVar 1) (tv := tTup (tCons (tVar 2) (tCons (tVar 3) tNil))) rfl scTEnt.nd (pi_tup (pe_fld (pv 0) (by rfl))) (blkOk_by (N := nTEnt) (sc := defScope sTEnt) (by decide +kernel))
      (fun _ _ _ _ _ => pg_tup rfl (pgs_cons (pg_name (i := 1) scTEnt.nd rfl (Or.inl rfl)) (pgs_cons (pg_name (i := 2) scTEnt.nd rfl (Or.inl rfl)) (pgs_cons (pg_name (i := 3) scTEnt.nd rfl (Or.inl rfl)) pgs_nil)))) (fun _ _ _ _ _ => pts_nil)
      (fun _ _ _ _ _ => pv 1) (fun _ _ _ _ _ => pe_tup (pa_cons (pv 2) (pa_cons (pv 3) pa_nil))))), ?_⟩
    refine ⟨_, rfl, a, _, dx, _, .ref t, rfl, ha, T.cT, T.nT, rfl, t, rfl, ⟨rs, SqT.of ht⟩, fun D hD => dc_tup (K := K) (a := t) (xs := rs) (fun i H' => Same H H' ∧ ∃ kvs, H' D = some (.dK kvs) ∧ DR (PairAt H') kvs (es.take i))
      ⟨Same.new hD, [], upd_same, .nil⟩ (fun i H' _ q => SqT.of (q.1 _ _ ht)) ?_ ?_⟩
    · rintro i y H1 hy ⟨s1, kvs, l1, d1⟩
      obtain ⟨e, he, q, rfl, hq⟩ := paired_get hp hy
      have hq1 := s1 _ _ hq
      refine ⟨q, _, rfl, SqT.of hq1, rfl, _, _, rfl, _, _, rfl, _, _, rfl, rfl, rfl, ?_⟩
      refine ⟨_, rfl, _, rfl, _, rfl, (by show 2 ≤ sizeLine; exact line_of (by decide)), fun r hr' => ?_⟩
      have l2 : (upd H1 r (.tup [.str e.2.1, .str e.2.2])) D = some (.dK kvs) := (Same.new hr') _ _ l1
      refine ⟨kvs, .inr e.1, rfl, l2, ?_, (s1.trans (Same.new hr')).mut hD, _, upd_same, ?_⟩
      · rw [d1.len]
        exact line_lt (Nat.le_trans (List.length_take_le' _ _) (by omega))
      · rw [List.take_add_one, he]
        have e3 : es.take i ++ (some e).toList = putS (es.take i) e.1 e.2 := by
          rw [putS_new (take_nodup_fresh hn he)]
          rfl
        rw [e3]
        have q1 : PairAt (upd (upd H1 r (.tup [.str e.2.1, .str e.2.2])) D (.dK (putK kvs (.inr e.1) (.ref r)))) (.ref r) e.2 := PairAt.mut (u := .dK kvs) ⟨r, rfl, upd_same⟩ l2 (by intro _ z; cases z)
        exact DR.put (d1.imp fun v x q => PairAt.mut (u := .dK kvs) (q.same (Same.new hr')) l2 (by intro _ z; cases z)) q1
    · rintro H1 ⟨s1, kvs, l1, d1⟩
      rw [List.take_of_length_le (by rw [paired_len hp]; exact Nat.le_refl _)] at d1
      exact k H1 D kvs s1 hD l1 d1

/-! ### Tree.__eq__ -/
def ThOk : Th → Prop
  | .blob => True
  | .tree es => ∀ e ∈ es, EntOk e
def spTEq (K : Frag) : Sp := fun vs H Q _ => ∃ a b es t, vs = [.ref a, .ref b] ∧ TreeAt K H a es ∧ ThAt K H b t ∧ ThOk (.tree es) ∧ ThOk t ∧ Q (.bl (decide (Th.tree es = t))) H
abbrev nTEq : List Str := ["self", "other"]
theorem scTEq : FnScope nTEq ["self", "other"] (defScope sTEq) := ⟨rfl, rfl, rfl, by decide +kernel, rfl, by decide +kernel, by decide +kernel⟩
theorem ok_teq (F : MF K "__eq__" "Tree.__eq__" sTEq (mAt K (ca K "Tree") "__eq__")) (T : Kit K mg) : CalF P w K mg base CX0 1 (mAt K (ca K "Tree") "__eq__") ["self", "other"] (spTEq K) := by
  refine calF0 F scTEq (fun _ _ _ _ _ _ us hl => match us, hl with | [_, _], _ => rfl) (fun vs H Q E h => ?_) (fun cdv A outer s H vs Q E hr h => ?_)
  · obtain ⟨a, b, es, t, rfl, _⟩ := h
    rfl
  · obtain ⟨a, b, es, t, rfl, ⟨dx, ta, rs, ha, hta, hp⟩, hb, o1, o2, k⟩ := h
    have B := T.fr
    refine ⟨_, pss_one (ps_ret (pe_and (pe_callB call_isi (by rfl) B.isi (by decide +kernel) (pa_cons (pv 1) (pa_cons (pe_glob (v := .ref (ca K "Tree")) (by rfl) T.gT rfl) pa_nil)))
      (pe_one (pe_cmpR (op_eqD hr.units) (pe_fld (pv 0) (by rfl)) (pe_fld (pv 1) (by rfl)) (nomark _))))), ?_⟩
    cases t with
    | blob =>
      obtain ⟨dy, hb⟩ := hb
      refine ⟨_, rfl, _, _, _, _, _, rfl, .own _, .base (T.tyB _ _ _ _ hb), T.iBT, _, rfl, ?_⟩
      exact iteF k
    | tree fs =>
      obtain ⟨dy, tb, rt, hb, htb, hq⟩ := hb
      refine ⟨_, rfl, _, _, _, _, _, rfl, .own _, .base (T.tyT _ _ _ _ hb), T.iTT, _, rfl, ?_⟩
      refine iteT' ?_
      refine ⟨_, rfl, a, _, dx, _, .ref ta, rfl, ha, T.cT, T.nT, rfl, _, rfl, b, _, dy, _, .ref tb, rfl, hb, T.cT, T.nT, rfl, .tuple (es.map entD), .tuple (fs.map entD), .tup (SqT.of hta) (dp_ents hp), .tup (SqT.of htb) (dp_ents hq), shaped_ents o1, shaped_ents o2, ?_⟩
      have e : PyData.eqv (.tuple (es.map entD)) (.tuple (fs.map entD)) = decide (Th.tree es = Th.tree fs) := by
        show PyData.eqvAll _ _ = _
        rw [eqv_all entD eqv_ent]
        by_cases c : es = fs
        · rw [decide_eq_true c, decide_eq_true (by rw [c])]
        · rw [decide_eq_false c, decide_eq_false (fun z => c (by injection z))]
      rw [e]
      exact k
end
end FK

/-! Forkhaul k08: Blob, is_object, the codes. -/
namespace FK
open PySem PySem.Spec PyProof.Rows L2
open PySem.W (Frag)

section
variable {P : Program} {w : World} {K : Frag} {mg : Str → Option Value} {base : Heap}
/-! ### Blob -/
def spBInit (K : Frag) : Sp := fun vs H Q _ => ∃ x dx, vs = [.ref x, .str "x"] ∧ H x = some (.ins (ca K "Blob") dx []) ∧ ∀ H', (∀ b o, b ≠ x → H b = some o → H' b = some o) → H' x = some (.ins (ca K "Blob") dx [("held", .str "x")]) → Q .non H'
abbrev nBInit : List Str := ["self", "text"]
theorem scBInit : FnScope nBInit ["self", "text"] (defScope sBInit) := ⟨rfl, rfl, rfl, by decide +kernel, rfl, by decide +kernel, by decide +kernel⟩
theorem ok_binit (F : MF K "__init__" "Blob.__init__" sBInit (mAt K (ca K "Blob") "__init__")) (G : Cal P w K mg base CX0 1 "is_text" ["thing", "most"] spIsText [.int 2000]) (T : Kit K mg) :
    CalF P w K mg base CX0 2 (mAt K (ca K "Blob") "__init__") ["self", "text"] (spBInit K) := by
  refine calF0 F scBInit (fun _ _ _ _ _ _ us hl => match us, hl with | [_, _], _ => rfl) (fun vs H Q E h => ?_) (fun cdv A outer s H vs Q E hr h => ?_)
  · obtain ⟨x, dx, rfl, _⟩ := h
    rfl
  · obtain ⟨x, dx, rfl, hx, k⟩ := h
    refine ⟨_, pss_cons (ps_if (pt_not (pt_val (pcal G hr (by rfl) pass0 (pa_cons (pv 1) pa_nil)))) pss_never pss_nil) (pss_one (ps_fld (pv 0) (pv 1) (by rfl))), ?_⟩
    refine ⟨_, rfl, rfl, fun H1 s1 => ⟨_, rfl, iteF ?_⟩⟩
    refine ⟨_, rfl, _, rfl, x, ca K "Blob", dx, [], rfl, s1 _ _ hx, T.cB, T.nB, by decide, ?_⟩
    exact k _ (fun b o hb e => by rw [upd_ne hb]; exact s1 _ _ e) upd_same
def spBText (K : Frag) : Sp := fun vs H Q _ => ∃ a, vs = [.ref a] ∧ BlobAt K H a ∧ Q (.str "x") H
abbrev nBText : List Str := ["self"]
theorem scBText : FnScope nBText ["self"] (defScope sBText) := ⟨rfl, rfl, rfl, by decide +kernel, rfl, by decide +kernel, by decide +kernel⟩
theorem ok_btext (F : MF K "text" "Blob.text" sBText (gAt K (ca K "Blob") "text")) (T : Kit K mg) : CalF P w K mg base CX0 1 (gAt K (ca K "Blob") "text") ["self"] (spBText K) := by
  refine calF0 F scBText (fun _ _ _ _ _ _ us hl => match us, hl with | [_], _ => rfl) (fun vs H Q E h => ?_) (fun cdv A outer s H vs Q E hr h => ?_)
  · obtain ⟨a, rfl, _⟩ := h
    rfl
  · obtain ⟨a, rfl, ⟨dx, ha⟩, k⟩ := h
    refine ⟨_, pss_one (ps_ret (pe_fld (pv 0) (by rfl))), ?_⟩
    exact ⟨_, rfl, a, _, dx, _, .str "x", rfl, ha, T.cB, T.nB, rfl, k⟩
def spBEq (K : Frag) : Sp := fun vs H Q _ => ∃ a b t, vs = [.ref a, .ref b] ∧ BlobAt K H a ∧ ThAt K H b t ∧ Q (.bl (decide (Th.blob = t))) H
abbrev nBEq : List Str := ["self", "other"]
theorem scBEq : FnScope nBEq ["self", "other"] (defScope sBEq) := ⟨rfl, rfl, rfl, by decide +kernel, rfl, by decide +kernel, by decide +kernel⟩
theorem ok_beq (F : MF K "__eq__" "Blob.__eq__" sBEq (mAt K (ca K "Blob") "__eq__")) (T : Kit K mg) : CalF P w K mg base CX0 1 (mAt K (ca K "Blob") "__eq__") ["self", "other"] (spBEq K) := by
  refine calF0 F scBEq (fun _ _ _ _ _ _ us hl => match us, hl with | [_, _], _ => rfl) (fun vs H Q E h => ?_) (fun cdv A outer s H vs Q E hr h => ?_)
  · obtain ⟨a, b, t, rfl, _⟩ := h
    rfl
  · obtain ⟨a, b, t, rfl, ⟨dx, ha⟩, hb, k⟩ := h
    have B := T.fr
    refine ⟨_, pss_one (ps_ret (pe_and (pe_callB call_isi (by rfl) B.isi (by decide +kernel) (pa_cons (pv 1) (pa_cons (pe_glob (v := .ref (ca K "Blob")) (by rfl) T.gB rfl) pa_nil)))
      (pe_one (pe_cmpR op_eq (pe_fld (pv 0) (by rfl)) (pe_fld (pv 1) (by rfl)) (nomark _))))), ?_⟩
    cases t with
    | blob =>
      obtain ⟨dy, hb⟩ := hb
      refine ⟨_, rfl, _, _, _, _, _, rfl, .own _, .base (T.tyB _ _ _ _ hb), T.iBB, _, rfl, iteT' ?_⟩
      exact ⟨_, rfl, a, _, dx, _, .str "x", rfl, ha, T.cB, T.nB, rfl, _, rfl, b, _, dy, _, .str "x", rfl, hb, T.cB, T.nB, rfl, rfl, k⟩
    | tree fs =>
      obtain ⟨dy, tb, rt, hb, htb, hq⟩ := hb
      refine ⟨_, rfl, _, _, _, _, _, rfl, .own _, .base (T.tyT _ _ _ _ hb), T.iTB, _, rfl, iteF k⟩
/-! ### is_object -/
def spIsObj (K : Frag) : Sp := fun vs H Q _ => ∃ a t, vs = [.ref a] ∧ ThAt K H a t ∧ ∀ H', Same H H' → Q (.bl true) H'
abbrev nIsObj : List Str := ["thing"]
theorem scIsObj : FnScope nIsObj ["thing"] (defScope sIsObj) := ⟨rfl, rfl, rfl, by decide +kernel, rfl, by decide +kernel, by decide +kernel⟩
theorem ok_isobj (F : GF K mg "is_object" sIsObj) (T : Kit K mg) : Cal P w K mg base CX0 1 "is_object" ["thing"] (spIsObj K) := by
  refine cal0 F scIsObj (fun _ _ _ _ _ _ us hl => match us, hl with | [_], _ => rfl) (fun vs H Q E h => ?_) (fun cdv A outer s H vs Q E hr h => ?_)
  · obtain ⟨a, t, rfl, _⟩ := h
    rfl
  · obtain ⟨a, t, rfl, ha, k⟩ := h
    have B := T.fr
    refine ⟨_, pss_one (ps_ret (pe_callB call_isiT (by rfl) B.isi (by decide +kernel) (pa_cons (pv 0) (pa_cons (pe_tup (pa_cons (pe_glob (v := .ref (ca K "Blob")) (by rfl) T.gB rfl) (pa_cons (pe_glob (v := .ref (ca K "Tree")) (by rfl) T.gT rfl)
      (pa_cons (pe_glob (v := .ref (ca K "Commit")) (by rfl) T.gC rfl) (pa_cons (pe_glob (v := .ref (ca K "Tag")) (by rfl) T.gG rfl) pa_nil))))) pa_nil)))), ?_⟩
    refine ⟨_, rfl, (by show 4 ≤ sizeLine; exact line_of (by decide)), fun p hp => ?_⟩
    have s1 := Same.new (o := .tup [.ref (ca K "Blob"), .ref (ca K "Tree"), .ref (ca K "Commit"), .ref (ca K "Tag")]) hp
    have hc : Paired ClsV [V.ref (ca K "Blob"), .ref (ca K "Tree"), .ref (ca K "Commit"), .ref (ca K "Tag")] [Value.ref (ca K "Blob"), .ref (ca K "Tree"), .ref (ca K "Commit"), .ref (ca K "Tag")] := .cons (.own _) (.cons (.own _) (.cons (.own _) (.cons (.own _) .nil)))
    cases t with
    | blob =>
      obtain ⟨dy, ha⟩ := ha
      exact ⟨_, p, _, _, _, true, rfl, upd_same, hc, .base (T.tyB _ _ _ _ (s1 _ _ ha)), kitAny_cons T.iBB (fun z => nomatch z) (fun _ => rfl), k _ s1⟩
    | tree es =>
      obtain ⟨dy, tb, rt, ha, _⟩ := ha
      exact ⟨_, p, _, _, _, true, rfl, upd_same, hc, .base (T.tyT _ _ _ _ (s1 _ _ ha)), kitAny_cons T.iTB (fun _ => kitAny_cons T.iTT (fun z => nomatch z) (fun _ => rfl)) (fun z => nomatch z), k _ s1⟩
end
end FK

/-! Forkhaul k08: the codes: encode_tree, encode. -/
namespace L2
open PySem PySem.Spec PyProof.Rows
/-- an object just made is locked for good -/
def tFrz (t : TE) : TE := fun σ H Q => t σ H fun x H1 => ∃ d u, x = .ref d ∧ H1 d = some u ∧ Mut (some u) ∧ ∀ od, Q x (upd H1 d (.frz od u))
theorem pe_frz {X : Cx} {e : Expr} {t : TE} (h : PE X e t) : PE X e (tFrz t) := by
  refine ⟨fun pins s σ H Q I hw => ?_⟩
  refine thn (h.run pins s σ H _ I hw) fun v s1 ⟨x, H1, I1, r, d, u, ex, hd, mu, q⟩ => ?_
  subst ex
  obtain ⟨od, I2⟩ := I1.lock hd mu
  exact ⟨_, _, I2, r, q od⟩
end L2
namespace FK
open PySem PySem.Spec PyProof.Rows L2 TL
open PySem.W (Frag)
/-! ### texts of objects -/
def lineE (e : Ent) : Str := Str.empty ++ e.2.1 ++ " " ++ e.1 ++ " " ++ e.2.2 ++ "\n"
def encT (es : List Ent) : Str := Txt.join "" (("tree\n" : Str) :: es.map lineE)
def encS : Th → Str
  | .blob => ("blob\n" : Str) ++ "x"
  | .tree es => encT es
def asc (z : Str) : Prop := ∀ c ∈ z.cps.toList, c < 128
theorem asc_app {a b : Str} (ha : asc a) (hb : asc b) : asc (a ++ b) := fun c hc => by
  have e : (a ++ b).cps.toList = a.cps.toList ++ b.cps.toList := by
    show (a.cps ++ b.cps).toList = _
    simp
  rw [e] at hc
  rcases List.mem_append.mp hc with h | h
  · exact ha c h
  · exact hb c h
theorem len_app (a b : Str) : (a ++ b).length = a.length + b.length := by
  show (a.cps ++ b.cps).size = _
  simp; rfl
theorem asc_only {t s : Str} (h : hasOnly t s = true) (hs : asc s) : asc t := fun c hc => by
  unfold hasOnly at h
  rw [List.all_eq_true] at h
  exact hs c (of_decide_eq_true (h c hc))
theorem asc_id {z : Str} (h : isIdS z = true) : asc z := by
  unfold isIdS at h
  rw [Bool.and_eq_true] at h
  exact asc_only h.2 (by unfold asc; decide +kernel)
theorem asc_seg {z : Str} (h : isSegS z = true) : asc z := by
  unfold isSegS at h
  simp only [Bool.and_eq_true] at h
  exact asc_only h.1.1.2 (by unfold asc; decide +kernel)
theorem kind_cases {k : Str} (h : isKind k = true) : k = "file" ∨ k = "exec" ∨ k = "dir" := by
  unfold isKind at h
  rw [Bool.or_eq_true, Bool.or_eq_true] at h
  rcases h with (h | h) | h
  · exact .inl (of_decide_eq_true h)
  · exact .inr (.inl (of_decide_eq_true h))
  · exact .inr (.inr (of_decide_eq_true h))
theorem asc_kind {k : Str} (h : isKind k = true) : asc k := by
  rcases kind_cases h with rfl | rfl | rfl <;> (unfold asc; decide +kernel)
theorem kindLen {k : Str} (h : isKind k = true) : k.length ≤ 4 := by
  rcases kind_cases h with rfl | rfl | rfl <;> decide +kernel
theorem asc_line {e : Ent} (h : EntOk e) : asc (lineE e) := by
  have sp : asc " " := by unfold asc; decide +kernel
  have nl : asc "\n" := by unfold asc; decide +kernel
  have em : asc Str.empty := by unfold asc; decide +kernel
  exact asc_app (asc_app (asc_app (asc_app (asc_app (asc_app em (asc_kind h.kind)) sp) (asc_seg h.seg)) sp) (asc_id h.id)) nl
theorem len_line {e : Ent} (h : EntOk e) : (lineE e).length ≤ 40 := by
  have h1 := kindLen h.kind
  have h2 := segLen h.seg
  have h3 := idLen h.id
  have e1 : (Str.ofString " ").length = 1 := by decide +kernel
  have e2 : (Str.ofString "\n").length = 1 := by decide +kernel
  have e3 : Str.empty.length = 0 := by decide +kernel
  unfold lineE
  rw [len_app, len_app, len_app, len_app, len_app, len_app, e1, e2, e3]
  omega
/-- joined by nothing -/
theorem joinL0 : ∀ l : List (List Nat), joinL [] l = l.flatten
  | [] => rfl
  | [p] => by simp [joinL]
  | p :: q :: r => by
    show p ++ ([] ++ joinL [] (q :: r)) = _
    rw [joinL0 (q :: r)]
    rfl
theorem join0 (l : List Str) : (Txt.join "" l).cps.toList = l.flatMap fun z => z.cps.toList := by
  show tl (Txt.join "" l) = _
  have e : tl (Str.ofString "") = [] := by decide +kernel
  rw [join_eq, tl_join, e, joinL0, List.flatMap_def]
structure TreeOk (es : List Ent) : Prop where
  nd : (es.map (·.1)).Nodup
  len : es.length ≤ 64
  ok : ∀ e ∈ es, EntOk e
def ThGood : Th → Prop
  | .blob => True
  | .tree es => TreeOk es
theorem ThGood.ok {t : Th} (h : ThGood t) : ThOk t := by
  cases t with
  | blob => trivial
  | tree _ => exact TreeOk.ok h
theorem asc_enc {t : Th} (h : ThGood t) : asc (encS t) := by
  cases t with
  | blob => unfold encS asc; decide +kernel
  | tree es =>
    intro c hc
    unfold encS encT at hc
    rw [join0] at hc
    obtain ⟨z, hz, hc⟩ := List.mem_flatMap.mp hc
    rcases List.mem_cons.mp hz with rfl | hz
    · exact (show asc "tree\n" by unfold asc; decide +kernel) c hc
    · obtain ⟨e, he, rfl⟩ := List.mem_map.mp hz
      exact asc_line (TreeOk.ok h e he) c hc
theorem len_enc {t : Th} (h : ThGood t) : (encS t).length ≤ 100000 := by
  cases t with
  | blob => unfold encS; decide +kernel
  | tree es =>
    have e : (encT es).length = ((("tree\n" : Str) :: es.map lineE).map fun z => z.cps.toList.length).sum := by
      show (encT es).cps.size = _
      rw [← Array.length_toList]
      unfold encT
      rw [join0, List.length_flatMap]
    show (encT es).length ≤ _
    rw [e]
    have h1 := sum_le (l := ((("tree\n" : Str) :: es.map lineE).map fun z => z.cps.toList.length)) (b := 40) (fun x hx => by
      obtain ⟨z, hz, rfl⟩ := List.mem_map.mp hx
      rcases List.mem_cons.mp hz with rfl | hz
      · decide +kernel
      · obtain ⟨e, he, rfl⟩ := List.mem_map.mp hz
        have := len_line (TreeOk.ok h e he)
        show (lineE e).cps.toList.length ≤ 40
        rw [Array.length_toList]
        exact this)
    have h2 := TreeOk.len h
    rw [List.length_map, List.length_cons, List.length_map] at h1
    omega

section
variable {P : Program} {w : World} {K : Frag} {mg : Str → Option Value} {base : Heap}
def spEncT (K : Frag) : Sp := fun vs H Q _ => ∃ a es, vs = [.ref a] ∧ TreeAt K H a es ∧ TreeOk es ∧ ∀ H', Same H H' → Q (.str (encT es)) H'
abbrev nEncT : List Str := ["tree", "lines", "name", "kind", "target"]
theorem scEncT : FnScope nEncT ["tree"] (defScope sEncT) := ⟨rfl, rfl, rfl, by decide +kernel, rfl, by decide +kernel, by decide +kernel⟩
theorem ok_enct (F : GF K mg "encode_tree" sEncT) (GE : CalF P w K mg base CX0 1 (gAt K (ca K "Tree") "entries") ["self"] (spTEnt K)) (T : Kit K mg) : Cal P w K mg base CX0 3 "encode_tree" ["tree"] (spEncT K) := by
  refine cal0 F scEncT (fun _ _ _ _ _ _ us hl => match us, hl with | [_], _ => rfl) (fun vs H Q E h => ?_) (fun cdv A outer s H vs Q E hr h => ?_)
  · obtain ⟨a, es, rfl, _⟩ := h
    rfl
  · obtain ⟨a, es, rfl, ha, hg, k⟩ := h
    have B := T.fr
    refine ⟨_, pss_cons (ps_set (i := 1) scEncT.nd rfl (Or.inl rfl) (pe_lst (pa_cons pe_str pa_nil)))
      (pss_cons (ps_for (g := gTup K 2 (gCons (gName 2) (gCons (gTup K 2 (gCons (gName 3) (gCons (gName 4) gNil))) gNil))) PassesOwn.never rfl (pi_items (pe_frz (pprop GE (pv 0) T.cT T.prT hr pass0)))
          (pg_tup rfl (pgs_cons (pg_name (i := 2) scEncT.nd rfl (Or.inl rfl)) (pgs_cons (pg_tup rfl (pgs_cons (pg_name (i := 3) scEncT.nd rfl (Or.inl rfl)) (pgs_cons (pg_name (i := 4) scEncT.nd rfl (Or.inl rfl)) pgs_nil))) pgs_nil)))
          (pss_one (ps_expr (pe_bm PySem.F.plainAttrs_list PySem.F.slot_list_append PySem.F.type_list_append mt_append (pv 1) (pa_cons (pe_joined (.cons (pe_fmt (pv 3)) (.cons pe_str (.cons (pe_fmt (pv 2)) (.cons pe_str (.cons (pe_fmt (pv 4)) (.cons pe_str .nil))))))) pa_nil)))))
      (pss_one (ps_ret (pe_join pe_str (pv 1))))), ?_⟩
    obtain ⟨hn, hlen, hok⟩ := hg
    have ht := ha
    refine ⟨(by show 1 ≤ sizeLine; exact line_of (by decide)), fun pl hpl => ?_⟩
    have s0 : Same H (upd H pl (.lst [.str "tree\n"])) := Same.new hpl
    obtain ⟨dx, t, rs, ha1, ha2, ha3⟩ := ThAt.same (t := .tree es) s0 ha
    refine ⟨_, rfl, a, dx, _, rfl, ha1, a, es, rfl, ⟨dx, t, rs, ha1, ha2, ha3⟩, hn, hlen, fun H1 d kvs s1 hd0 hd dr => ?_⟩
    refine ⟨d, .dK kvs, rfl, hd, trivial, fun od => ?_⟩
    refine ⟨d, od, kvs, rfl, upd_same, ?_⟩
    have hpl1 : H1 pl = some (.lst [.str "tree\n"]) := s1 _ _ upd_same
    have ndp : pl ≠ d := ne_of hpl1 hd (by intro z; cases z)
    have dr' : DR (PairAt (upd H1 d (.frz od (.dK kvs)))) kvs es := dr.imp fun v p q => q.mut hd (by intro _ z; cases z)
    have sb : Same H (upd H1 d (.frz od (.dK kvs))) := (s0.trans s1).mut (Same.free s0 hd0)
    refine for_of (n := kvs.length) (fun i σ H' => (∃ x1 x2 x3, σ = [some (.ref a), some (.ref pl), x1, x2, x3]) ∧ Same H H' ∧ H' d = some (.frz od (.dK kvs)) ∧ DR (PairAt H') kvs es ∧ H' pl = some (.lst ((("tree\n" : Str) :: (es.take i).map lineE).map V.str))) ?_ ?_ ?_ ?_ ?_
    · exact ⟨⟨_, _, _, rfl⟩, sb, upd_same, dr', by rw [upd_ne ndp]; exact hpl1⟩
    · exact fun i σ H' hi q => ⟨q.2.2.1, hi⟩
    · exact fun σ H' q => ⟨q.2.2.1, Nat.le_refl _⟩
    · rintro i y σ H2 H3 hi ⟨⟨x1, x2, x3, rfl⟩, s2, hd2, dr2, hl2⟩ ⟨T0, kk, v, hkv, rfl, hT, rfl⟩
      obtain ⟨e, he, rfl, q, rfl, hq⟩ := dr2.get hkv
      have sT : Same H2 (upd H2 T0 (.tup [kV (.inr e.1), .ref q])) := Same.new hT
      have hv := hok e (List.mem_of_getElem? he)
      have l1 := kindLen hv.kind
      have l2 := segLen hv.seg
      have l3 := idLen hv.id
      have e1 : (Str.ofString " ").length = 1 := by decide +kernel
      have e2 : (Str.ofString "\n").length = 1 := by decide +kernel
      have e3 : Str.empty.length = 0 := by decide +kernel
      refine ⟨T0, _, rfl, SqT.of upd_same, rfl, _, _, rfl, _, _, rfl, ⟨q, _, rfl, SqT.of (sT _ _ hq), rfl, _, _, rfl, _, _, rfl, rfl, rfl, ?_⟩⟩
      refine ⟨_, rfl, .inl ⟨rfl, _, SqL.of (sT _ _ hl2)⟩, ?_⟩
      refine ⟨_, rfl, .inl ⟨_, rfl, line_of (by omega), _, rfl, line_of (by rw [len_app]; omega), ?_⟩⟩
      refine ⟨_, rfl, line_of (by rw [len_app, len_app]; omega), ?_⟩
      refine ⟨_, rfl, .inl ⟨_, rfl, line_of (by omega), _, rfl, line_of (by rw [len_app, len_app, len_app]; omega), ?_⟩⟩
      refine ⟨_, rfl, line_of (by rw [len_app, len_app, len_app, len_app]; omega), ?_⟩
      refine ⟨_, rfl, .inl ⟨_, rfl, line_of (by omega), _, rfl, line_of (by rw [len_app, len_app, len_app, len_app, len_app]; omega), ?_⟩⟩
      refine ⟨_, rfl, line_of (by rw [len_app, len_app, len_app, len_app, len_app, len_app]; omega), ?_⟩
      refine ⟨pl, _, _, rfl, rfl, sT _ _ hl2, ?_, ?_⟩
      · rw [List.length_map, List.length_cons, List.length_map]
        have := List.length_take_le' i es
        exact line_lt (by omega)
      · have hpl0 : H pl = none := hpl
        refine ⟨⟨_, _, _, rfl⟩, (s2.trans sT).mut hpl0, ?_, ?_, ?_⟩
        · rw [upd_ne ndp.symm]
          exact sT _ _ hd2
        · exact dr2.imp fun v p q => PairAt.mut (q.same sT) (sT _ _ hl2) (by intro _ z; cases z)
        · rw [upd_same, List.take_add_one, he]
          simp only [List.map_append, List.map_cons, List.cons_append]
          rfl
    · rintro σ H2 ⟨⟨x1, x2, x3, rfl⟩, s2, hd2, dr2, hl2⟩
      have e0 : es.take kvs.length = es := List.take_of_length_le (by rw [dr.len]; exact Nat.le_refl _)
      rw [e0] at hl2
      refine ⟨⟨_, rfl⟩, _, rfl, _, pl, _, rfl, rfl, .inl (SqL.of hl2), ?_, k _ s2⟩
      have h1 := sum_le (l := (("tree\n" : Str) :: es.map lineE).map (·.length)) (b := 40) (fun x hx => by
        obtain ⟨z, hz, rfl⟩ := List.mem_map.mp hx
        rcases List.mem_cons.mp hz with rfl | hz
        · decide +kernel
        · obtain ⟨e, he, rfl⟩ := List.mem_map.mp hz
          exact len_line (hok e he))
      have e4 : (Str.ofString "").length = 0 := by decide +kernel
      rw [e4]
      rw [List.length_map, List.length_cons, List.length_map] at h1
      omega
end
end FK

/-! Forkhaul k08: encode, sum_of, id_of. -/
namespace FK
open PySem PySem.Spec PyProof.Rows L2 TL
open PySem.W (Frag)
section
variable {P : Program} {w : World} {K : Frag} {mg : Str → Option Value} {base : Heap}
def spEnc (K : Frag) : Sp := fun vs H Q _ => ∃ a t, vs = [.ref a] ∧ ThAt K H a t ∧ ThGood t ∧ ∀ (H' : Hp) (b : Array UInt8), Same H H' → b.toList.map (fun c => ((c.toNat : Nat) : Int)) = codesI (encS t) → Q (.byt b) H'
abbrev nEnc : List Str := ["thing", "text"]
theorem scEnc : FnScope nEnc ["thing"] (defScope sEnc) := ⟨rfl, rfl, rfl, by decide +kernel, rfl, by decide +kernel, by decide +kernel⟩
theorem ok_enc (F : GF K mg "encode" sEnc) (GO : Cal P w K mg base CX0 1 "is_object" ["thing"] (spIsObj K)) (GT : Cal P w K mg base CX0 3 "encode_tree" ["tree"] (spEncT K)) (GB : CalF P w K mg base CX0 1 (gAt K (ca K "Blob") "text") ["self"] (spBText K)) (T : Kit K mg) :
    Cal P w K mg base CX0 4 "encode" ["thing"] (spEnc K) := by
  refine cal0 F scEnc (fun _ _ _ _ _ _ us hl => match us, hl with | [_], _ => rfl) (fun vs H Q E h => ?_) (fun cdv A outer s H vs Q E hr h => ?_)
  · obtain ⟨a, t, rfl, _⟩ := h
    rfl
  · obtain ⟨a, t, rfl, ha, hg, k⟩ := h
    have B := T.fr
    refine ⟨_, pss_cons (ps_if (pt_not (pt_val (pcal (GO.mono (by decide : 1 ≤ 3)) hr (by rfl) pass0 (pa_cons (pv 0) pa_nil)))) pss_never pss_nil)
      (pss_cons (ps_if (pt_val (pe_callB call_isi (by rfl) B.isi (by decide +kernel) (pa_cons (pv 0) (pa_cons (pe_glob (v := .ref (ca K "Blob")) (by rfl) T.gB rfl) pa_nil))))
          (pss_one (ps_set (i := 1) scEnc.nd rfl (Or.inl rfl) (pe_op op_add_str pe_str (pprop GB (pv 0) T.cB T.prB (hr.mono (by decide : 2 ≤ 3)) pass0))))
          (pss_one (ps_if (pt_val (pe_callB call_isi (by rfl) B.isi (by decide +kernel) (pa_cons (pv 0) (pa_cons (pe_glob (v := .ref (ca K "Tree")) (by rfl) T.gT rfl) pa_nil))))
            (pss_one (ps_set (i := 1) scEnc.nd rfl (Or.inl rfl) (pcal GT hr (by rfl) pass0 (pa_cons (pv 0) pa_nil)))) pss_never)))
      (pss_one (ps_ret (pe_encode (pv 1))))), ?_⟩
    refine ⟨_, rfl, a, t, rfl, ha, fun H1 s1 => ⟨_, rfl, iteF ?_⟩⟩
    have ha1 := ThAt.same s1 ha
    cases t with
    | blob =>
      obtain ⟨dx, hb⟩ := ha1
      refine ⟨_, rfl, _, _, _, _, _, rfl, .own _, .base (T.tyB _ _ _ _ hb), T.iBB, _, rfl, iteT' ?_⟩
      refine ⟨_, rfl, a, dx, _, rfl, hb, a, rfl, ⟨dx, hb⟩, _, _, rfl, rfl, line_of (by decide +kernel), ?_⟩
      exact ⟨_, rfl, ⟨_, rfl⟩, _, rfl, rfl, asc_enc (t := .blob) hg, len_enc (t := .blob) hg, fun b hb => k _ b s1 hb⟩
    | tree es =>
      have ha2 := ha1
      obtain ⟨dx, tb, rt, hb, _⟩ := ha1
      refine ⟨_, rfl, _, _, _, _, _, rfl, .own _, .base (T.tyT _ _ _ _ hb), T.iTB, _, rfl, iteF ?_⟩
      refine ⟨_, rfl, _, _, _, _, _, rfl, .own _, .base (T.tyT _ _ _ _ hb), T.iTT, _, rfl, iteT' ?_⟩
      refine ⟨_, rfl, a, es, rfl, ha2, hg, fun H2 s2 => ?_⟩
      exact ⟨_, rfl, ⟨_, rfl⟩, _, rfl, rfl, asc_enc (t := .tree es) hg, len_enc (t := .tree es) hg, fun b hb => k _ b (s1.trans s2) hb⟩
/-! ### sum_of -/
def sumI (l : List Int) : Int := l.foldl (fun n b => (n * 1000003 + b + 1) % 2305843009213693951) 7
def hid (t : Th) : Str := hex16 (sumI (codesI (encS t))).toNat
theorem sumI_range (l : List Int) : 0 ≤ sumI l ∧ sumI l < 2305843009213693951 := by
  have key : ∀ (l : List Int) (n : Int), 0 ≤ n → n < 2305843009213693951 → 0 ≤ l.foldl (fun n b => (n * 1000003 + b + 1) % 2305843009213693951) n ∧ l.foldl (fun n b => (n * 1000003 + b + 1) % 2305843009213693951) n < 2305843009213693951 := by
    intro l
    induction l with
    | nil => exact fun n h1 h2 => ⟨h1, h2⟩
    | cons b r ih => exact fun n _ _ => ih _ (Int.emod_nonneg _ (by decide)) (Int.emod_lt_of_pos _ (by decide))
  exact key l 7 (by decide) (by decide)
theorem hid_len (t : Th) : (hid t).length = 16 := hex16_len (by have := sumI_range (codesI (encS t)); omega)
theorem hid_id (t : Th) : isIdS (hid t) = true := by
  unfold isIdS
  rw [Bool.and_eq_true]
  refine ⟨decide_eq_true (hid_len t), ?_⟩
  unfold hasOnly
  rw [List.all_eq_true]
  intro c hc
  have h := hex16_hex _ c hc
  have key : ∀ c, c < 128 → ((48 ≤ c ∧ c ≤ 57) ∨ (97 ≤ c ∧ c ≤ 102)) → decide (c ∈ cHex.cps.toList) = true := by decide +kernel
  refine key c ?_ h
  unfold hexSign at h
  omega
/-- data, short = False -/
def spSum : Sp := fun vs H Q _ => ∃ (b : Array UInt8), vs = [.byt b, .bl false] ∧ b.size ≤ 100000 ∧ Q (.str (hex16 (sumI (b.toList.map (fun c => ((c.toNat : Nat) : Int)))).toNat)) H
abbrev nSum : List Str := ["data", "short", "number", "modulus", "byte"]
theorem scSum : FnScope nSum ["data", "short"] (defScope sSum) := ⟨rfl, rfl, rfl, by decide +kernel, rfl, by decide +kernel, by decide +kernel⟩
/-- f(thing, short = s): what the call rule wants -/
structure CalK (P : Program) (w : World) (K : Frag) (mg : Str → Option Value) (base : Heap) (CX : CXT) (k : Nat) (x : Str) (ps : List Str) (sp : Sp) (n : Nat) (ks : List Str) : Prop where
  mgx : mg x = some (.ref (He.ga K x))
  kp : PySem.W.keepIn K (.ref (He.ga K x)) = true
  ok : ∃ fd g, FnOk P w K mg base CX k (He.ga K x) fd ps sp ∧ KBn K fd ps n ks g (fun vs zs => vs ++ zs)
theorem CalK.mono {CX : CXT} {j k n : Nat} {x : Str} {ps ks : List Str} {sp : Sp} (G : CalK P w K mg base CX j x ps sp n ks) (h : j ≤ k) : CalK P w K mg base CX k x ps sp n ks := by
  obtain ⟨m, kp, fd, g, o, b⟩ := G
  exact ⟨m, kp, fd, g, o.mono h, b⟩
theorem ok_sum (F : GF K mg "sum_of" sSum [] [("short", .bl false)]) (T : Kit K mg) {t1 t2 t3 : Tok} (g3 : mg "SHORT" = some (.int 251 t3)) (g1 : mg "LONG" = some (.int 2305843009213693951 t1)) (g2 : mg "FACTOR" = some (.int 1000003 t2)) :
    CalK P w K mg base CX0 1 "sum_of" ["data", "short"] spSum 1 ["short"] := by
  obtain ⟨fd, FD⟩ := F.fd
  obtain ⟨mv, hK⟩ := FD.kbinds0 (ps := ["data", "short"]) 1 ["short"] [] (fun us _ ws => us ++ ws) (by simp) (by simp) (fun h1 _ h3 => h1.append h3)
    (fun D doc pm an cdv ct us mv ws hu hm hw => match us, mv, ws, hu, hm, hw with | [_], [], [_], _, _, _ => rfl)
  refine ⟨F.mgx, FD.kp, fd, _, FD.ok scSum (fun vs H Q E h => ?_) fun cdv A outer s H vs Q E hr h => ?_, hK⟩
  · obtain ⟨b, rfl, _⟩ := h
    rfl
  · obtain ⟨b, rfl, hb, k⟩ := h
    suffices hh : ∃ t, PSs (cxOf CX0 P w K mg base nSum "sum_of" (defScope sSum) (He.ga K "sum_of") cdv A outer s H E).nox (defBody sSum) t ∧ t { nx := fun _ H' => Q .non H', rt := Q } (L2.start nSum [.byt b, .bl false]) H by
      obtain ⟨t, p, q⟩ := hh
      exact ⟨t, p.nox, q⟩
    have B := T.fr
    refine ⟨_, pss_cons (ps_if (pt_not (pt_val (pe_callB call_isi (by rfl) B.isi (by decide +kernel) (pa_cons (pv 0) (pa_cons (pe_bltn (v := .ty "bytes") (by rfl) B.bytes (by decide +kernel) rfl) pa_nil))))) pss_never pss_nil)
      (pss_cons (ps_set (i := 2) scSum.nd rfl (Or.inl rfl) pe_int)
      (pss_cons (ps_set (i := 3) scSum.nd rfl (Or.inl rfl) (pe_ifExp (pt_val (pv 1)) (pe_glob (v := .int 251) (by rfl) g3 ⟨_, rfl⟩) (pe_glob (v := .int 2305843009213693951) (by rfl) g1 ⟨_, rfl⟩)))
      (pss_cons (ps_for (g := gName 4) PassesOwn.never rfl (pi_byt (pv 0)) (pg_name (i := 4) scSum.nd rfl (Or.inl rfl))
          (pss_one (ps_set (i := 2) scSum.nd rfl (Or.inl rfl) (pe_op op_mod (pe_callTy call_int1 (by rfl) B.int (by decide +kernel) (pa_cons (pe_op op_add (pe_op op_add (pe_op op_mul (pv 2) (pe_glob (v := .int 1000003) (by rfl) g2 ⟨_, rfl⟩)) (pv 4)) pe_int) pa_nil)) (pv 3)))))
      (pss_one (ps_ret (pe_joined1 (pe_hex (pv 2)))))))), ?_⟩
    refine ⟨_, rfl, _, _, _, _, _, rfl, .ty _, .byt _, kit_ty (show kitB "bytes" "bytes" = some true by decide +kernel), _, rfl, iteF ?_⟩
    refine ⟨_, rfl, _, rfl, iteF ?_⟩
    refine ⟨_, rfl, _, rfl, for_byt (fun i σ H' => (∃ x4, σ = [some (.byt b), some (.bl false), some (.int (sumI ((b.toList.take i).map (fun c => ((c.toNat : Nat) : Int))))), some (.int 2305843009213693951), x4]) ∧ H' = H) ⟨⟨_, rfl⟩, rfl⟩ ?_ ?_⟩
    · rintro i c σ H1 hc ⟨⟨x4, rfl⟩, rfl⟩
      have hr1 := sumI_range ((b.toList.take i).map (fun c => ((c.toNat : Nat) : Int)))
      refine ⟨_, rfl, _, _, rfl, rfl, .inl ⟨by omega, by omega⟩, _, rfl, _, _, rfl, rfl, _, _, rfl, rfl, .inl ⟨_, rfl, _, rfl, _, _, rfl, rfl, (show (0:Int) < 2305843009213693951 by decide), ?_⟩⟩
      refine ⟨⟨some (.int ((c.toNat : Nat) : Int)), ?_⟩, rfl⟩
      have e : b.toList[i]? = some c := by rw [← hc]; simp
      rw [List.take_add_one, e, List.map_append]
      unfold sumI
      rw [List.foldl_append]
      rfl
    · rintro σ H1 ⟨⟨x4, rfl⟩, rfl⟩
      have e : b.toList.take b.size = b.toList := List.take_of_length_le (by simp)
      rw [e]
      have hr1 := sumI_range (b.toList.map (fun c => ((c.toNat : Nat) : Int)))
      exact ⟨_, rfl, _, rfl, hr1.1, by omega, k⟩
/-! ### id_of -/
def spId (K : Frag) : Sp := fun vs H Q _ => ∃ a t, vs = [.ref a, .bl false] ∧ ThAt K H a t ∧ ThGood t ∧ ∀ H', Same H H' → Q (.str (hid t)) H'
abbrev nIdOf : List Str := ["thing", "short"]
theorem scIdOf : FnScope nIdOf ["thing", "short"] (defScope sIdOf) := ⟨rfl, rfl, rfl, by decide +kernel, rfl, by decide +kernel, by decide +kernel⟩
theorem ok_idof (F : GF K mg "id_of" sIdOf [] [("short", .bl false)]) (GE : Cal P w K mg base CX0 4 "encode" ["thing"] (spEnc K)) (GS : CalK P w K mg base CX0 1 "sum_of" ["data", "short"] spSum 1 ["short"]) :
    CalK P w K mg base CX0 5 "id_of" ["thing", "short"] (spId K) 1 ["short"] ∧ Cal P w K mg base CX0 5 "id_of" ["thing", "short"] (spId K) [.bl false] := by
  obtain ⟨fd, FD⟩ := F.fd
  obtain ⟨mv, hK⟩ := FD.kbinds0 (ps := ["thing", "short"]) 1 ["short"] [] (fun us _ ws => us ++ ws) (by simp) (by simp) (fun h1 _ h3 => h1.append h3)
    (fun D doc pm an cdv ct us mv ws hu hm hw => match us, mv, ws, hu, hm, hw with | [_], [], [_], _, _, _ => rfl)
  obtain ⟨ds, hd, hb⟩ := FD.binds0 (ps := ["thing", "short"]) 1 (by simp) rfl (fun D doc pm an cdv ct us ks hu hk => match us, ks, hu, hk with | [_], [_], _, _ => ⟨_, _, _, _, _, _, rfl, rfl, rfl⟩)
  have main : FnOk P w K mg base CX0 5 (He.ga K "id_of") fd ["thing", "short"] (spId K) := by
    refine FD.ok scIdOf (fun vs H Q E h => ?_) fun cdv A outer s H vs Q E hr h => ?_
    · obtain ⟨a, t, rfl, _⟩ := h
      rfl
    · obtain ⟨a, t, rfl, ha, hg, k⟩ := h
      suffices hh : ∃ t, PSs (cxOf CX0 P w K mg base nIdOf "id_of" (defScope sIdOf) (He.ga K "id_of") cdv A outer s H E).nox (defBody sIdOf) t ∧ t { nx := fun _ H' => Q .non H', rt := Q } (L2.start nIdOf [.ref a, .bl false]) H by
        obtain ⟨t, p, q⟩ := hh
        exact ⟨t, p.nox, q⟩
      obtain ⟨m, kp, fd2, g, o, b⟩ := GS
      refine ⟨_, pss_one (ps_ret (pe_callN (o.mono (by decide : 1 ≤ 4)) hr (by rfl) m kp b pass0 (pa_cons (pcal GE hr (by rfl) pass0 (pa_cons (pv 0) pa_nil)) pa_nil) (pk_cons (pv 1) pk_nil))), ?_⟩
      refine ⟨_, rfl, a, t, rfl, ha, hg, fun H1 b1 s1 hb1 => ?_⟩
      refine ⟨_, rfl, rfl, rfl, b1, rfl, ?_, ?_⟩
      · have e : (b1.toList.map (fun c => ((c.toNat : Nat) : Int))).length = (codesI (encS t)).length := by rw [hb1]
        have hl := len_enc hg
        unfold codesI at e
        rw [List.length_map, List.length_map, Array.length_toList, Array.length_toList] at e
        have : (encS t).cps.size = (encS t).length := rfl
        omega
      · rw [hb1]
        exact k _ s1
  exact ⟨⟨F.mgx, FD.kp, fd, _, main, hK⟩, ⟨F.mgx, FD.kp, fd, ds, main, hb, hd⟩⟩
end
end FK

/-! Forkhaul k08: sorted of any length. -/
namespace L2
open PySem PySem.Spec PyProof.Rows
section
variable {X : Cx}
def rSortedSA (K : PySem.W.Frag) : List V → Hp → VK → Prop := fun vs H Q => ∃ (a : Addr) (xs : List Str), vs = [V.ref a] ∧ SqL K H a (xs.map V.str) ∧ xs.length ≤ 100000 ∧
  ∀ (ys : List Str) (p : Addr), ys.Perm xs → sortedS ys = true → H p = none → Q (.ref p) (upd H p (.lst (ys.map V.str)))
theorem call_sortedDA (hcalm : X.calm = true) : CallR X (.builtin "sorted") (fun xs H Q => ∃ (a : Addr) (kvs : List (Key × V)) (ks : List Str), xs = [.ref a] ∧ Rd H a (.dK kvs) ∧ kvs.map (·.1) = ks.map Sum.inr ∧ ks.length ≤ 100000 ∧
    ∀ ys p, ys.Perm ks → sortedS ys = true → H p = none → Q (.ref p) (upd H p (.lst (ys.map V.str)))) := by
  intro pins s σ H xs us Q I r q
  obtain ⟨a, kvs, ks, ex, hd, hks, h64, q⟩ := q
  subst ex
  obtain ⟨u, eu, rx⟩ := vals1 r
  subst eu
  cases rx
  obtain ⟨z, lo, vs, rel, dd⟩ := dk_rd I.hok hd
  obtain ⟨ep, hat⟩ := dd.dictAt
  have hkeys : vs.map (·.1) = ks.map Sum.inr := rel.keys.symm.trans hks
  have hl : vs.length = ks.length := by
    have e := congrArg List.length hkeys
    rw [List.length_map, List.length_map] at e
    exact e
  have h16 : vs.length ≤ sizeLine := by rw [hl, sizeLine_eq]; omega
  refine Calls.call_function_entry PyProof.Rows.kind_sorted PyProof.Rows.plain_sorted PyProof.Rows.entry_sorted (PyProof.Rows.args_sorted1 _) ?_
  unfold Builtin.«sorted»
  refine wpAny_bind (m := checkCount "sorted" 1 1 _) (wpAny_pure ?_)
  refine wpAny_bind (PySem.W.kdu_collect (A := X.A.in1) (PySem.W.kdl_dict (knd := mixKind X.prog X.w) (kvs := vs) (ep := ep) lo) (I.ok.hd hcalm) hat h16 fun h' tk acc hk hacc => ?_)
  have hal : acc.toList.length = ks.length := by rw [Array.length_toList, hacc.1, hl]
  have hS : StrsAre acc.toList ks := strs_at hal fun j v e => by
    obtain ⟨k, x, e1, e2⟩ := hacc.2 j v (by rw [← Array.getElem?_toList]; exact e)
    have e3 : (vs.map (·.1))[j]? = some k := by rw [List.getElem?_map, e1]; all_goals rfl
    rw [hkeys, List.getElem?_map] at e3
    cases e4 : ks[j]? with
    | none => rw [e4] at e3; cases e3
    | some y =>
      rw [e4] at e3
      have e5 : Sum.inr y = k := Option.some.inj e3
      subst e5
      obtain ⟨t, ev⟩ := Value.isStrOf_shape (x := y) (v := v) e2
      exact ⟨y, t, rfl, ev⟩
  have I1 : Inv X pins σ H { s with heap := h', toks := tk } := I.kept hk
  refine wpAny_bind (wpAny_newList ?_ (by rw [hal, sizeLine_eq]; omega))
  have hoL : (h'.push (seqObj "list" acc.toList.toArray 0)).get? h'.objs.size = some (seqObj "list" acc.toList.toArray 0) := Heap.get?_push_size _ rfl
  show wpAny _ _ _ _ _ { s with heap := h'.push (seqObj "list" acc.toList.toArray 0), toks := tk }
  refine wpAny_bind (wpAny_holding (wpAny_call_entry PyProof.Rows.slot_list_sort ⟨_, hoL, rfl⟩ PyProof.Rows.entry_list_sort
    (PyProof.Rows.list_sort_treeKAny strKind_oneLt (s := { s with heap := h'.push (seqObj "list" acc.toList.toArray 0), toks := tk }) hoL hS.keysOf (fun v₁ v₂ rest e => keyKind_strs (by rw [← e]; exact hS)) (by rw [hal]; exact Nat.le_trans h64 (by decide)) fun st' hp hs => ⟨_, rfl, ?_⟩)
    (PyProof.Rows.args_list_sort _)))
  obtain ⟨ys, g1, g2, g3⟩ := sorted_out_str hS hp hs
  obtain ⟨e', he'⟩ := PyProof.Rows.sortedHeap_at (vs := acc.toList) (out := (arrOf st').map (·.2)) hoL
  have hlen : (ys.map V.str).length ≤ sizeLine := by
    rw [List.length_map, g2.length_eq]
    exact Nat.le_trans h64 (by decide)
  refine wpAny_pure ⟨_, rfl, .ref h'.objs.size, upd H h'.objs.size (.lst (ys.map V.str)), I1.laid (t' := tk) (fun b u e => ?_) (Nat.le_refl _)
    (show ObjOk X.prog X.w _ _ _ (.lst (ys.map V.str)) from ⟨hlen, ((arrOf st').map (·.2)).toList, e', vals_of_strs g1, by rw [Array.toArray_toList]; exact he'⟩), rfl, q ys _ g2 g3 (I1.hok.fresh (Nat.le_refl _))⟩
  have hb : b < h'.objs.size := Heap.lt_size e
  rw [PyProof.Rows.sortedHeap_old (Nat.ne_of_lt hb) (by rw [size_push']; exact Nat.lt_succ_of_lt hb)]
  exact Heap.get?_push_of_some _ e
theorem cr_sortedSA : CallR X (.builtin "sorted") (rSortedSA X.K) := by
  intro pins s σ H vs us Q I r h
  obtain ⟨a, xs, rfl, hs, h64, q⟩ := h
  obtain ⟨its, rv, hl, _⟩ := I.list hs
  rw [Vals.ref1 r]
  have hlen0 := rv.length
  rw [List.length_map] at hlen0
  refine PyProof.Rows.sorted_strsAny hl.isList rv.strs (by rw [← hlen0]; exact Nat.le_trans h64 (by decide)) fun out ys h1 h2 h3 => ?_
  obtain ⟨ep, he'⟩ := PyProof.Rows.sortedAll_at s.heap its out
  have hlen : (ys.map V.str).length ≤ sizeLine := by rw [List.length_map, h2.length_eq]; exact Nat.le_trans h64 (by decide)
  exact ⟨.ref _, upd H (s.heap.objs.size + 1) (.lst (ys.map V.str)), I.laid (t' := s.toks) (fun _ _ => PyProof.Rows.sortedAll_old) (Nat.le_succ _) ⟨hlen, out.toList, ep, vals_of_strs h1, he'⟩, rfl, q ys _ h2 h3 (I.hok.fresh (Nat.le_succ _))⟩
end
end L2

/-! Forkhaul k08: == of objects, Store.__init__, put, ids, copied. -/
namespace FK
open PySem PySem.Spec PyProof.Rows L2 TL
open PySem.W (Frag)

/-! ### == and != of objects -/
section
variable {X : Cx} {k : Nat}
def rNeObj (K : Frag) : R2 := fun x y H Q => ∃ a b t u, x = .ref a ∧ y = .ref b ∧ ThAt K H a t ∧ ThAt K H b u ∧ ThGood t ∧ ThGood u ∧ Q (.bl (!decide (t = u))) H
def rEqObj (K : Frag) : R2 := fun x y H Q => ∃ a b t u, x = .ref a ∧ y = .ref b ∧ ThAt K H a t ∧ ThAt K H b u ∧ ThGood t ∧ ThGood u ∧ Q (.bl (decide (t = u))) H
structure EqDefs (P : Program) (w : World) (K : Frag) (mg : Str → Option Value) (base : Heap) : Prop where
  b : CalF P w K mg base CX0 1 (mAt K (ca K "Blob") "__eq__") ["self", "other"] (spBEq K)
  t : CalF P w K mg base CX0 1 (mAt K (ca K "Tree") "__eq__") ["self", "other"] (spTEq K)
theorem calf_nil {P : Program} {w : World} {K : Frag} {mg : Str → Option Value} {base : Heap} {CX : CXT} {k : Nat} {f : Addr} {ps : List Str} {sp : Sp} (G : CalF P w K mg base CX k f ps sp) : ∃ fd, FnOk P w K mg base CX k f fd ps sp ∧ Binds K fd ps [] := by
  obtain ⟨fd, ds, o, b, d⟩ := G
  cases d
  exact ⟨fd, o, b⟩
theorem insOf {K : Frag} {H : Hp} {a : Addr} {t : Th} (h : ThAt K H a t) : ∃ C dx fs, H a = some (.ins C dx fs) ∧ (C = ca K "Blob" ∨ C = ca K "Tree") := by
  cases t with
  | blob => obtain ⟨dx, h⟩ := h; exact ⟨_, _, _, h, .inl rfl⟩
  | tree es => obtain ⟨dx, t, rs, h, _⟩ := h; exact ⟨_, _, _, h, .inr rfl⟩
theorem op_neObj (T : Kit X.K X.mg) (D : EqDefs X.prog X.w X.K X.mg X.base) (hr : Room k X.A) (hk : 2 ≤ k) : OpR X (compareOp .NotEq) (rNeObj X.K) := by
  intro pins s σ H x y v u Q I rx ry h
  obtain ⟨a, b, t, z, rfl, rfl, ha, hb, g1, g2, q⟩ := h
  obtain ⟨C, dy, gs, hb', hC⟩ := insOf hb
  cases t with
  | blob =>
    obtain ⟨fd, F, hB⟩ := calf_nil D.b
    obtain ⟨dx, ha⟩ := ha
    refine op_neOwn F hB pass0 (hr.mono hk) T.eqB pins s σ H _ _ v u Q I rx ry ⟨a, b, C, dx, dy, _, gs, rfl, rfl, ha, hb', ?_, a, b, z, rfl, ⟨dx, ha⟩, hb, _, rfl, q⟩
    rcases hC with rfl | rfl
    · exact T.fBB
    · exact T.fBT
  | tree es =>
    obtain ⟨fd, F, hB⟩ := calf_nil D.t
    have ha' := ha
    obtain ⟨dx, tt, rs, ha, _⟩ := ha
    refine op_neOwn F hB pass0 (hr.mono hk) T.eqT pins s σ H _ _ v u Q I rx ry ⟨a, b, C, dx, dy, _, gs, rfl, rfl, ha, hb', ?_, a, b, es, z, rfl, ha', hb, g1.ok, g2.ok, _, rfl, q⟩
    rcases hC with rfl | rfl
    · exact T.fTB
    · exact T.fTT
theorem op_eqObj (T : Kit X.K X.mg) (D : EqDefs X.prog X.w X.K X.mg X.base) (hr : Room k X.A) (hk : 1 ≤ k) : OpR X (compareOp .Eq) (rEqObj X.K) := by
  intro pins s σ H x y v u Q I rx ry h
  obtain ⟨a, b, t, z, rfl, rfl, ha, hb, g1, g2, q⟩ := h
  obtain ⟨C, dy, gs, hb', hC⟩ := insOf hb
  cases t with
  | blob =>
    obtain ⟨fd, F, hB⟩ := calf_nil D.b
    obtain ⟨dx, ha⟩ := ha
    refine op_eqOwn F hB pass0 (hr.mono hk) T.eqB pins s σ H _ _ v u Q I rx ry ⟨a, b, C, dx, dy, _, gs, rfl, rfl, ha, hb', ?_, a, b, z, rfl, ⟨dx, ha⟩, hb, _, rfl, q⟩
    rcases hC with rfl | rfl
    · exact T.fBB
    · exact T.fBT
  | tree es =>
    obtain ⟨fd, F, hB⟩ := calf_nil D.t
    have ha' := ha
    obtain ⟨dx, tt, rs, ha, _⟩ := ha
    refine op_eqOwn F hB pass0 (hr.mono hk) T.eqT pins s σ H _ _ v u Q I rx ry ⟨a, b, C, dx, dy, _, gs, rfl, rfl, ha, hb', ?_, a, b, es, z, rfl, ha', hb, g1.ok, g2.ok, _, rfl, q⟩
    rcases hC with rfl | rfl
    · exact T.fTB
    · exact T.fTT
end

/-! ### a store in the heap -/
def ObR (K : Frag) (H : Hp) (v : V) (t : Th) : Prop := ∃ a, v = .ref a ∧ ThAt K H a t
def stF (kd : Addr) : List (Str × V) := [("short", .bl false), ("kept", .ref kd)]
def StAt (K : Frag) (H : Hp) (a kd : Addr) (ks : List (Str × Th)) : Prop := ∃ dx kvs, H a = some (.ins (ca K "Store") dx (stF kd)) ∧ H kd = some (.dK kvs) ∧ DR (ObR K H) kvs ks
/-- all but kd stands -/
def But (kd : Addr) (H H' : Hp) : Prop := ∀ b o, b ≠ kd → H b = some o → H' b = some o
theorem Same.but {H H' : Hp} (s : Same H H') (kd : Addr) : But kd H H' := fun b o _ e => s b o e
theorem But.trans {kd : Addr} {H H1 H2 : Hp} (a : But kd H H1) (b : But kd H1 H2) : But kd H H2 := fun c o n e => b c o n (a c o n e)
theorem But.self {kd : Addr} {H H1 : Hp} {o : HO} (s : Same H H1) : But kd H (upd H1 kd o) := fun b u n e => by rw [upd_ne n]; exact s _ _ e
theorem PairAt.but {kd : Addr} {H H' : Hp} {v : V} {p : Str × Str} {kvs : List (Key × V)} (h : PairAt H v p) (hk : H kd = some (.dK kvs)) (s : But kd H H') : PairAt H' v p := by
  obtain ⟨q, e, hq⟩ := h
  exact ⟨q, e, s _ _ (ne_of hq hk (by intro z; cases z)) hq⟩
theorem EntAt.but {kd : Addr} {H H' : Hp} {v : V} {p : Ent} {kvs : List (Key × V)} (h : EntAt H v p) (hk : H kd = some (.dK kvs)) (s : But kd H H') : EntAt H' v p := by
  obtain ⟨q, e, hq⟩ := h
  exact ⟨q, e, s _ _ (ne_of hq hk (by intro z; cases z)) hq⟩
theorem ThAt.but {K : Frag} {kd : Addr} {H H' : Hp} {a : Addr} {kvs : List (Key × V)} (hk : H kd = some (.dK kvs)) (s : But kd H H') : ∀ {t : Th}, ThAt K H a t → ThAt K H' a t
  | .blob, ⟨dx, h⟩ => ⟨dx, s _ _ (ne_of h hk (by intro z; cases z)) h⟩
  | .tree es, ⟨dx, t, rs, h1, h2, h3⟩ => ⟨dx, t, rs, s _ _ (ne_of h1 hk (by intro z; cases z)) h1, s _ _ (ne_of h2 hk (by intro z; cases z)) h2, L2.Paired.mapP h3 fun _ _ q => q.but hk s⟩
theorem StAt.same {K : Frag} {H H' : Hp} {a kd : Addr} {ks : List (Str × Th)} (h : StAt K H a kd ks) (s : Same H H') : StAt K H' a kd ks := by
  obtain ⟨dx, kvs, h1, h2, h3⟩ := h
  exact ⟨dx, kvs, s _ _ h1, s _ _ h2, h3.imp fun v t ⟨b, e, q⟩ => ⟨b, e, ThAt.same s q⟩⟩

section
variable {P : Program} {w : World} {K : Frag} {mg : Str → Option Value} {base : Heap}
/-! ### Store.__init__ -/
def spSInit (K : Frag) : Sp := fun vs H Q _ => ∃ x dx, vs = [.ref x, .bl false] ∧ H x = some (.ins (ca K "Store") dx []) ∧ ∀ H' kd, (∀ b o, b ≠ x → H b = some o → H' b = some o) → H kd = none → H' x = some (.ins (ca K "Store") dx (stF kd)) → H' kd = some (.dK []) → Q .non H'
abbrev nSInit : List Str := ["self", "short"]
theorem scSInit : FnScope nSInit ["self", "short"] (defScope sSInit) := ⟨rfl, rfl, rfl, by decide +kernel, rfl, by decide +kernel, by decide +kernel⟩
/-- C(): the default; C(short = s) -/
structure MkS (P : Program) (w : World) (K : Frag) (mg : Str → Option Value) (base : Heap) (k : Nat) : Prop where
  ok : ∃ fd ds g, FnOk P w K mg base CX0 k (mAt K (ca K "Store") "__init__") fd ["self", "short"] (spSInit K) ∧ Binds K fd ["self", "short"] ds ∧ Vals [.bl false] ds ∧ KBn K fd ["self", "short"] 1 ["short"] g (fun vs zs => vs ++ zs)
theorem ok_sinit (F : MF K "__init__" "Store.__init__" sSInit (mAt K (ca K "Store") "__init__") [] [("short", .bl false)]) (T : Kit K mg) : MkS P w K mg base 1 := by
  obtain ⟨fd, FD⟩ := F.fd
  obtain ⟨mv, hK⟩ := FD.kbinds0 (ps := ["self", "short"]) 1 ["short"] [] (fun us _ ws => us ++ ws) (by simp) (by simp) (fun h1 _ h3 => h1.append h3)
    (fun D doc pm an cdv ct us mv ws hu hm hw => match us, mv, ws, hu, hm, hw with | [_], [], [_], _, _, _ => rfl)
  obtain ⟨ds, hd, hb⟩ := FD.binds0 (ps := ["self", "short"]) 1 (by simp) rfl (fun D doc pm an cdv ct us ks hu hk => match us, ks, hu, hk with | [_], [_], _, _ => ⟨_, _, _, _, _, _, rfl, rfl, rfl⟩)
  refine ⟨fd, ds, _, FD.ok scSInit (fun vs H Q E h => ?_) fun cdv A outer s H vs Q E hr h => ?_, hb, hd, hK⟩
  · obtain ⟨x, dx, rfl, _⟩ := h
    rfl
  · obtain ⟨x, dx, rfl, hx, k⟩ := h
    suffices hh : ∃ t, PSs (cxOf CX0 P w K mg base nSInit "Store.__init__" (defScope sSInit) (mAt K (ca K "Store") "__init__") cdv A outer s H E).nox (defBody sSInit) t ∧ t { nx := fun _ H' => Q .non H', rt := Q } (L2.start nSInit [.ref x, .bl false]) H by
      obtain ⟨t, p, q⟩ := hh
      exact ⟨t, p.nox, q⟩
    have B := T.fr
    refine ⟨_, pss_cons (ps_fld (pv 0) (pe_callTy call_bool1 (by rfl) B.bool (by decide +kernel) (pa_cons (pv 1) pa_nil)) (by rfl)) (pss_one (ps_fld (pv 0) pe_dnewK (by rfl))), ?_⟩
    refine ⟨_, rfl, .inr ⟨_, rfl, _, rfl, x, _, dx, [], rfl, hx, T.cS, T.nS1, by decide, ?_⟩⟩
    intro kd hkd
    have nk : kd ≠ x := fun e => by rw [e, upd_same] at hkd; cases hkd
    rw [upd_ne nk] at hkd
    refine ⟨_, rfl, x, _, dx, _, rfl, by rw [upd_ne nk.symm]; exact upd_same, T.cS, T.nS2, by decide, ?_⟩
    refine k _ kd (fun b o hb e => ?_) hkd upd_same (by rw [upd_ne nk]; exact upd_same)
    rw [upd_ne hb, upd_ne (ne_of_none e hkd), upd_ne hb]
    exact e
/-! ### put -/
def spSPut (K : Frag) : Sp := fun vs H Q _ => ∃ a o kd ks t, vs = [.ref a, .ref o] ∧ StAt K H a kd ks ∧ ThAt K H o t ∧ ThGood t ∧ (valS ks (hid t) = none ∨ valS ks (hid t) = some t) ∧ ks.length ≤ 50000 ∧
  ∀ H', But kd H H' → StAt K H' a kd (putS ks (hid t) t) → Q (.str (hid t)) H'
abbrev nSPut : List Str := ["self", "thing", "name"]
theorem scSPut : FnScope nSPut ["self", "thing"] (defScope sSPut) := ⟨rfl, rfl, rfl, by decide +kernel, rfl, by decide +kernel, by decide +kernel⟩
theorem ok_sput (F : MF K "put" "Store.put" sSPut (mAt K (ca K "Store") "put")) (GO : Cal P w K mg base CX0 1 "is_object" ["thing"] (spIsObj K)) (GI : CalK P w K mg base CX0 5 "id_of" ["thing", "short"] (spId K) 1 ["short"]) (D : EqDefs P w K mg base) (T : Kit K mg) :
    CalF P w K mg base CX0 6 (mAt K (ca K "Store") "put") ["self", "thing"] (spSPut K) := by
  refine calF0 F scSPut (fun _ _ _ _ _ _ us hl => match us, hl with | [_, _], _ => rfl) (fun vs H Q E h => ?_) (fun cdv A outer s H vs Q E hr h => ?_)
  · obtain ⟨a, o, kd, ks, t, rfl, _⟩ := h
    rfl
  · obtain ⟨a, o, kd, ks, t, rfl, hs, ho, hg, hc, hl, k⟩ := h
    obtain ⟨m, kp, fd2, g, oI, b⟩ := GI
    refine ⟨_, pss_cons (ps_if (pt_not (pt_val (pcal (GO.mono (by decide : 1 ≤ 5)) hr (by rfl) pass0 (pa_cons (pv 1) pa_nil)))) pss_never pss_nil)
      (pss_cons (ps_set (i := 2) scSPut.nd rfl (Or.inl rfl) (pe_callN oI hr (by rfl) m kp b pass0 (pa_cons (pv 1) pa_nil) (pk_cons (pe_fld (pv 0) (by rfl)) pk_nil)))
      (pss_cons (ps_if (pt_cmpR (op_neObj T D hr (by decide)) (pe_dget2 (hu_of hr) (pe_fld (pv 0) (by rfl)) (pv 2) (pv 1) ⟨rfl, rfl, rfl, rfl⟩) (pv 1) (nomark _)) pss_never pss_nil)
      (pss_cons (ps_dput (hu_of hr) (pe_fld (pv 0) (by rfl)) (pv 2) (pv 1) (by rfl))
      (pss_one (ps_ret (pv 2)))))), ?_⟩
    refine ⟨_, rfl, o, t, rfl, ho, fun H1 s1 => ⟨_, rfl, iteF ?_⟩⟩
    have hs1 := hs.same s1
    obtain ⟨dx, kvs, h1, h2, h3⟩ := hs1
    refine ⟨_, rfl, ⟨_, rfl, a, _, dx, _, _, rfl, h1, T.cS, T.nS1, rfl, rfl, rfl, o, t, rfl, ThAt.same s1 ho, hg, fun H2 s2 => ?_⟩⟩
    have h1' := s2 _ _ h1
    have h2' := s2 _ _ h2
    have h3' : DR (ObR K H2) kvs ks := h3.imp fun v t ⟨b, e, q⟩ => ⟨b, e, ThAt.same s2 q⟩
    have ho2 := ThAt.same (s1.trans s2) ho
    have hget : ∃ c, ThAt K H2 c t ∧ (valV kvs (.inr (hid t))).getD (.ref o) = .ref c := by
      rcases hc with hc | hc
      · rw [h3'.val_none hc]
        exact ⟨o, ho2, rfl⟩
      · obtain ⟨v, hv, c, rfl, hq⟩ := h3'.val_some hc
        rw [hv]
        exact ⟨c, hq, rfl⟩
    obtain ⟨c, hc2, ec⟩ := hget
    refine ⟨_, rfl, a, _, dx, _, .ref kd, rfl, h1', T.cS, T.nS2, rfl, kd, rfl, .inl ⟨kvs, .inl h2'⟩, _, rfl, _, rfl, _, .inl ⟨kvs, .inr (hid t), .inl h2', rfl, rfl⟩, ?_⟩
    rw [ec]
    refine ⟨_, rfl, c, o, t, t, rfl, rfl, hc2, ho2, hg, hg, _, rfl, ?_⟩
    rw [decide_eq_true rfl]
    refine iteF ?_
    refine ⟨_, rfl, _, rfl, a, _, dx, _, .ref kd, rfl, h1', T.cS, T.nS2, rfl, _, rfl, kd, _, rfl, .inl ⟨kvs, .inr (hid t), h2', rfl, ?_, rfl⟩, _, rfl, ?_⟩
    · rw [h3'.len]
      exact line_lt (by omega)
    · have s12 := s1.trans s2
      have bt : But kd H2 (upd H2 kd (.dK (putK kvs (.inr (hid t)) (.ref o)))) := But.self (Same.refl H2)
      refine k _ (But.self s12) ⟨dx, _, by rw [upd_ne (ne_of h1' h2' (by intro z; cases z))]; exact h1', upd_same, ?_⟩
      exact DR.put (h3'.imp fun v u ⟨b, e, q⟩ => ⟨b, e, ThAt.but h2' bt q⟩) ⟨o, rfl, ThAt.but h2' bt ho2⟩
/-! ### ids -/
def spSIds (K : Frag) : Sp := fun vs H Q _ => ∃ a kd ks, vs = [.ref a] ∧ StAt K H a kd ks ∧ ks.length ≤ 50000 ∧ ∀ H' t, Same H H' → H' t = some (.tup ((srt (ks.map (·.1))).map V.str)) → Q (.ref t) H'
abbrev nSIds : List Str := ["self"]
theorem scSIds : FnScope nSIds ["self"] (defScope sSIds) := ⟨rfl, rfl, rfl, by decide +kernel, rfl, by decide +kernel, by decide +kernel⟩
theorem ok_sids (F : MF K "ids" "Store.ids" sSIds (mAt K (ca K "Store") "ids")) (T : Kit K mg) : CalF P w K mg base CX0 1 (mAt K (ca K "Store") "ids") ["self"] (spSIds K) := by
  refine calF0 F scSIds (fun _ _ _ _ _ _ us hl => match us, hl with | [_], _ => rfl) (fun vs H Q E h => ?_) (fun cdv A outer s H vs Q E hr h => ?_)
  · obtain ⟨a, kd, ks, rfl, _⟩ := h
    rfl
  · obtain ⟨a, kd, ks, rfl, ⟨dx, kvs, h1, h2, h3⟩, hl, k⟩ := h
    have B := T.fr
    refine ⟨_, pss_one (ps_ret (pe_callTy call_tuple_of (by rfl) B.tuple (by decide +kernel) (pa_cons (pe_callB (call_sortedDA rfl) (by rfl) B.sorted (by decide +kernel) (pa_cons (pe_fld (pv 0) (by rfl)) pa_nil)) pa_nil))), ?_⟩
    refine ⟨_, rfl, a, _, dx, _, .ref kd, rfl, h1, T.cS, T.nS2, rfl, kd, kvs, ks.map (·.1), rfl, .inl h2, h3.keys, by rw [List.length_map]; omega, fun ys p hperm hsort hp => ?_⟩
    obtain rfl := srt_unique hperm hsort
    exact ⟨p, _, rfl, .inl ⟨SqL.of upd_same, fun t ht => k _ t ((Same.new hp).new' ht) upd_same⟩⟩
/-! ### copied -/
def spSCop (K : Frag) : Sp := fun vs H Q _ => ∃ a kd ks, vs = [.ref a] ∧ StAt K H a kd ks ∧ ∀ H' b kd', Same H H' → H b = none → H kd' = none → b ≠ kd' → StAt K H' b kd' ks → Q (.ref b) H'
abbrev nSCop : List Str := ["self", "found"]
theorem scSCop : FnScope nSCop ["self"] (defScope sSCop) := ⟨rfl, rfl, rfl, by decide +kernel, rfl, by decide +kernel, by decide +kernel⟩
theorem ok_scop (F : MF K "copied" "Store.copied" sSCop (mAt K (ca K "Store") "copied")) (M : MkS P w K mg base 1) (T : Kit K mg) : CalF P w K mg base CX0 3 (mAt K (ca K "Store") "copied") ["self"] (spSCop K) := by
  refine calF0 F scSCop (fun _ _ _ _ _ _ us hl => match us, hl with | [_], _ => rfl) (fun vs H Q E h => ?_) (fun cdv A outer s H vs Q E hr h => ?_)
  · obtain ⟨a, kd, ks, rfl, _⟩ := h
    rfl
  · obtain ⟨a, kd, ks, rfl, ⟨dx, kvs, h1, h2, h3⟩, k⟩ := h
    have B := T.fr
    obtain ⟨fd, ds, g, o, hb, hd, hK⟩ := M
    refine ⟨_, pss_cons (ps_set (i := 1) scSCop.nd rfl (Or.inl rfl) (pe_makeK0 T.mkS o hr (by rfl) T.gS hK pass0 (pk_cons (pe_fld (pv 0) (by rfl)) pk_nil)))
      (pss_cons (ps_fld (pv 1) (pe_callTy call_dictD (by rfl) B.dict (by decide +kernel) (pa_cons (pe_fld (pv 0) (by rfl)) pa_nil)) (by rfl))
      (pss_one (ps_ret (pv 1)))), ?_⟩
    refine ⟨_, rfl, a, _, dx, _, .bl false, rfl, h1, T.cS, T.nS1, rfl, rfl, rfl, fun x dy hx hdy hne => ?_⟩
    refine ⟨x, dy, rfl, upd_same, fun H1 kd1 s1 hk1 hx1 hkd1 => ⟨rfl, ?_⟩⟩
    have sA : Same H H1 := fun b u e => s1 b u (ne_of_none e hx) (by rw [upd_ne (ne_of_none e hx), upd_ne (ne_of_none e hdy)]; exact e)
    refine ⟨_, rfl, a, _, dx, _, .ref kd, rfl, sA _ _ h1, T.cS, T.nS2, rfl, kd, kvs, rfl, .inl (sA _ _ h2), fun p hp => ?_⟩
    have nxp : x ≠ p := ne_of_none hx1 hp
    refine ⟨_, rfl, x, _, dy, stF kd1, rfl, by rw [upd_ne nxp]; exact hx1, T.cS, T.nS2, (show 2 < 1000 by decide), ?_⟩
    have sB : Same H (upd H1 p (.dK kvs)) := sA.new' hp
    have sC : Same H (upd (upd H1 p (.dK kvs)) x (.ins (ca K "Store") dy (stF p))) := sB.mut hx
    exact ⟨_, rfl, k _ x p sC hx (Same.free sA hp) nxp ⟨dy, kvs, upd_same, by rw [upd_ne nxp.symm]; exact upd_same, h3.imp fun v t ⟨b, e, q⟩ => ⟨b, e, ThAt.same sC q⟩⟩⟩
end
end FK

/-! Forkhaul k08: is_value, clashes, check_files. -/
namespace FK
open PySem PySem.Spec PyProof.Rows L2 TL
open PySem.W (Frag)
/-- a value of a file's path, or another thing -/
def ValC (K : Frag) (H : Hp) (v : V) : Option (Str × Str) → Prop
  | some p => PairAt H v p ∧ p.2.length ≤ 100000
  | none => (v = .non ∨ (∃ i, v = .int i) ∨ ∃ q xs, v = .ref q ∧ H q = some (.lst xs)) ∨ ∃ q xs, v = .ref q ∧ H q = some (.tup xs) ∧ xs.length ≠ 2
theorem notTup {K : Frag} {H : Hp} {v : V} (h : v = .non ∨ (∃ i, v = .int i) ∨ ∃ q xs, v = .ref q ∧ H q = some (.lst xs)) : ∃ t, TyX K H v (.type t) ∧ kitB t "tuple" = some false := by
  rcases h with rfl | ⟨i, rfl⟩ | ⟨q, xs, rfl, h⟩
  · exact ⟨_, .base .non, by decide +kernel⟩
  · exact ⟨_, .base (.int i), by decide +kernel⟩
  · exact ⟨_, .base (.lst h), by decide +kernel⟩
theorem ValC.mut {K : Frag} {H : Hp} {d : Addr} {u o' : HO} (hd : H d = some u) (h1 : ∀ xs, u ≠ .tup xs) (h2 : ∀ xs, u ≠ .lst xs) {v : V} {o : Option (Str × Str)} (h : ValC K H v o) : ValC K (upd H d o') v o := by
  cases o with
  | some p => exact ⟨PairAt.mut (u := u) h.1 hd h1, h.2⟩
  | none =>
    rcases h with (rfl | ⟨i, rfl⟩ | ⟨q, xs, rfl, h⟩) | ⟨q, xs, rfl, hq, hl⟩
    · exact .inl (.inl rfl)
    · exact .inl (.inr (.inl ⟨i, rfl⟩))
    · exact .inl (.inr (.inr ⟨q, xs, rfl, by rw [upd_ne (ne_of h hd (h2 _).symm)]; exact h⟩))
    · exact .inr ⟨q, xs, rfl, by rw [upd_ne (ne_of hq hd (h1 _).symm)]; exact hq, hl⟩
theorem ValC.same {K : Frag} {H H' : Hp} (s : Same H H') {v : V} {o : Option (Str × Str)} (h : ValC K H v o) : ValC K H' v o := by
  cases o with
  | some p => exact ⟨h.1.same s, h.2⟩
  | none =>
    rcases h with (rfl | ⟨i, rfl⟩ | ⟨q, xs, rfl, h⟩) | ⟨q, xs, rfl, hq, hl⟩
    · exact .inl (.inl rfl)
    · exact .inl (.inr (.inl ⟨i, rfl⟩))
    · exact .inl (.inr (.inr ⟨q, xs, rfl, s _ _ h⟩))
    · exact .inr ⟨q, xs, rfl, s _ _ hq, hl⟩
/-- a key of files, or another thing -/
def KeyC (H : Hp) (v : V) : Option Str → Prop
  | some z => v = .str z ∧ z.length ≤ 4000
  | none => v = .non ∨ (∃ i, v = .int i) ∨ ∃ q xs, v = .ref q ∧ H q = some (.tup xs)
theorem KeyC.or {K : Frag} {H : Hp} {v : V} {o : Option Str} (h : KeyC H v o) : StrOr K H v o := by
  cases o with
  | some z => exact ⟨h.1, Nat.le_trans h.2 (by decide)⟩
  | none =>
    rcases h with rfl | ⟨i, rfl⟩ | ⟨q, xs, rfl, h⟩
    · exact ⟨_, .base .non, by decide +kernel⟩
    · exact ⟨_, .base (.int i), by decide +kernel⟩
    · exact ⟨_, .base (.tup h), by decide +kernel⟩
theorem KeyC.mut {H : Hp} {d : Addr} {u o' : HO} (hd : H d = some u) (h1 : ∀ xs, u ≠ .tup xs) {v : V} {o : Option Str} (h : KeyC H v o) : KeyC (upd H d o') v o := by
  cases o with
  | some p => exact h
  | none =>
    rcases h with rfl | ⟨i, rfl⟩ | ⟨q, xs, rfl, h⟩
    · exact .inl rfl
    · exact .inr (.inl ⟨i, rfl⟩)
    · exact .inr (.inr ⟨q, xs, rfl, by rw [upd_ne (ne_of h hd (h1 _).symm)]; exact h⟩)
theorem KeyC.same {H H' : Hp} (s : Same H H') {v : V} {o : Option Str} (h : KeyC H v o) : KeyC H' v o := by
  cases o with
  | some p => exact h
  | none =>
    rcases h with rfl | ⟨i, rfl⟩ | ⟨q, xs, rfl, h⟩
    · exact .inl rfl
    · exact .inr (.inl ⟨i, rfl⟩)
    · exact .inr (.inr ⟨q, xs, rfl, s _ _ h⟩)
def valueOk (p : Str × Str) : Bool := (decide (p.1 = "file") || decide (p.1 = "exec")) && isIdS p.2
theorem in_two (k : Str) : inV (.str k) [.str "file", .str "exec"] = (decide (k = "file") || decide (k = "exec")) := by
  show (eqV (.str "file") (.str k) || (eqV (.str "exec") (.str k) || false)) = _
  have e : ∀ a b : Str, eqV (.str a) (.str b) = decide (b = a) := fun a b => by
    show (a == b) = _
    by_cases c : b = a
    · rw [decide_eq_true c, c]; exact beq_self_eq_true a
    · rw [decide_eq_false c]; exact beq_eq_false_iff_ne.mpr (fun z => c z.symm)
  rw [e, e, Bool.or_false]
section
variable {P : Program} {w : World} {K : Frag} {mg : Str → Option Value} {base : Heap}
def spVal (K : Frag) : Sp := fun vs H Q _ => ∃ v o, vs = [v] ∧ ValC K H v o ∧ ∀ H', Same H H' → Q (.bl (o.elim false valueOk)) H'
abbrev nIsVal : List Str := ["thing"]
theorem scIsVal : FnScope nIsVal ["thing"] (defScope sIsVal) := ⟨rfl, rfl, rfl, by decide +kernel, rfl, by decide +kernel, by decide +kernel⟩
theorem ok_isval (F : GF K mg "is_value" sIsVal) (G : Cal P w K mg base CX0 2 "is_id" ["thing"] (spS K isIdS)) (B : Fr mg) : Cal P w K mg base CX0 3 "is_value" ["thing"] (spVal K) := by
  refine cal0 F scIsVal (fun _ _ _ _ _ _ us hl => match us, hl with | [_], _ => rfl) (fun vs H Q E h => ?_) (fun cdv A outer s H vs Q E hr h => ?_)
  · obtain ⟨v, p, rfl, _⟩ := h
    rfl
  · obtain ⟨v, o, rfl, hv, k⟩ := h
    refine ⟨_, pss_cons (ps_if (PW.pt (pw_or (pt_not (pt_val (pe_callB call_isi (by rfl) B.isi (by decide +kernel) (pa_cons (pv 0) (pa_cons (pe_bltn (v := .ty "tuple") (by rfl) B.tuple (by decide +kernel) rfl) pa_nil)))))
        (pw_or (pt_cmpR op_ne (pe_callB call_len_seq (by rfl) B.len boot_len (pa_cons (pv 0) pa_nil)) pe_int (nomark _))
        (pw_or1 (pt_not (pt_val (pe_callB call_isi (by rfl) B.isi (by decide +kernel) (pa_cons (pe_ix ix_tup (pv 0) pe_int (by intro _ _; rfl)) (pa_cons (pe_bltn (v := .ty "str") (by rfl) B.str boot_str rfl) pa_nil))))))))) (pss_one (ps_ret pe_bl)) pss_nil)
      (pss_one (ps_ret (pe_and (pe_cmpR op_in_seq (pe_ix ix_tup (pv 0) pe_int (by intro _ _; rfl)) (pe_tup (pa_cons pe_str (pa_cons pe_str pa_nil))) rfl)
        (pe_one (pcal G hr (by rfl) pass0 (pa_cons (pe_ix ix_tup (pv 0) pe_int (by intro _ _; rfl)) pa_nil)))))), ?_⟩
    cases o with
    | none =>
      have kk := k H (Same.refl H)
      rcases hv with hv | ⟨q, xs, rfl, hq, hl⟩
      · obtain ⟨t, ty, e⟩ := notTup (K := K) hv
        refine ⟨_, rfl, _, _, _, _, _, rfl, .ty _, ty, kit_ty e, _, rfl, ?_⟩
        exact iteT' kk
      · refine ⟨_, rfl, _, _, _, _, _, rfl, .ty _, .base (.tup hq), kit_ty (show kitB "tuple" "tuple" = some true by decide +kernel), _, rfl, iteF ?_⟩
        refine ⟨_, rfl, q, _, rfl, .inr (SqT.of hq), rfl, _, rfl, ?_⟩
        have e2 : (!decide (V.int (xs.length : Int) = V.int 2)) = true := by
          rw [decide_eq_false (fun z => hl (by injection z with z; omega))]; rfl
        rw [e2]
        exact iteT' (iteT' kk)
    | some p =>
      obtain ⟨⟨q, rfl, hq⟩, hl⟩ := hv
      refine ⟨_, rfl, _, _, _, _, _, rfl, .ty _, .base (.tup hq), kit_ty (show kitB "tuple" "tuple" = some true by decide +kernel), _, rfl, iteF ?_⟩
      refine ⟨_, rfl, q, _, rfl, .inr (SqT.of hq), rfl, _, rfl, iteF ?_⟩
      refine ⟨_, rfl, q, _, _, _, rfl, rfl, SqT.of hq, rfl, _, _, _, _, _, rfl, .ty _, .base (.str _), kit_ty (show kitB "str" "str" = some true by decide +kernel), _, rfl, iteF ?_⟩
      refine ⟨_, rfl, q, _, _, _, rfl, rfl, SqT.of hq, rfl, (by show 2 ≤ sizeLine; exact line_of (by decide)), fun tt htt => ?_⟩
      refine ⟨tt, _, rfl, .inr (SqT.of upd_same), rfl, rfl, ?_⟩
      show ∃ c, V.bl (inV (.str p.1) [.str "file", .str "exec"]) = .bl c ∧ _
      rw [in_two]
      refine ⟨_, rfl, ?_⟩
      have s1 : Same H (upd H tt (.tup [.str "file", .str "exec"])) := Same.new htt
      refine ite2 (fun c => ?_) (fun c => ?_)
      · refine ⟨_, rfl, q, _, _, _, rfl, rfl, SqT.of (s1 _ _ hq), rfl, ?_⟩
        refine ⟨_, some p.2, rfl, ⟨rfl, hl⟩, fun H' s2 => ?_⟩
        have e : valueOk p = isIdS p.2 := by unfold valueOk; rw [c]; rfl
        have := k H' (s1.trans s2)
        rw [show (some p).elim false valueOk = valueOk p from rfl, e] at this
        exact this
      · have e : valueOk p = false := by
          unfold valueOk
          rw [show (decide (p.1 = Str.ofString "file") || decide (p.1 = Str.ofString "exec")) = false from by simpa using c]
          rfl
        have := k _ s1
        rw [show (some p).elim false valueOk = valueOk p from rfl, e] at this
        exact this
/-! ### clashes -/
theorem keys_any {kvs : List (Key × V)} {zs : List Str} (h : kvs.map (·.1) = zs.map Sum.inr) (z : Str) : (valV kvs (.inr z)).isSome = decide (z ∈ zs) := by
  rw [← valV_any]
  rw [Bool.eq_iff_iff, List.any_eq_true, decide_eq_true_iff]
  constructor
  · rintro ⟨p, hp, e⟩
    have e := of_decide_eq_true e
    have : p.1 ∈ kvs.map (·.1) := List.mem_map_of_mem hp
    rw [h, e] at this
    obtain ⟨y, hy, e2⟩ := List.mem_map.mp this
    cases e2
    exact hy
  · intro hz
    have : Sum.inr z ∈ kvs.map (·.1) := by rw [h]; exact List.mem_map_of_mem hz
    obtain ⟨p, hp, e⟩ := List.mem_map.mp this
    exact ⟨p, hp, decide_eq_true e⟩
def addS (rs : List Str) (z : Str) : List Str := if z ∈ rs then rs else rs ++ [z]
theorem addS_mem {rs : List Str} {z y : Str} : y ∈ addS rs z ↔ y ∈ rs ∨ y = z := by
  unfold addS
  split
  · constructor
    · exact .inl
    · rintro (h | rfl)
      · exact h
      · assumption
  · simp
theorem addS_len {rs : List Str} {z : Str} : (addS rs z).length ≤ rs.length + 1 := by
  unfold addS
  split
  · omega
  · simp
theorem addS_ne {rs : List Str} {z : Str} : addS rs z ≠ [] := fun e => by
  have : z ∈ addS rs z := addS_mem.mpr (.inr rfl)
  rw [e] at this
  cases this
theorem keys_putK {kvs : List (Key × V)} {rs : List Str} (h : kvs.map (·.1) = rs.map Sum.inr) (z : Str) (v : V) : (putK kvs (.inr z) v).map (·.1) = (addS rs z).map Sum.inr := by
  have e := keys_any h z
  cases c : valV kvs (.inr z) with
  | none =>
    rw [c] at e
    have hz : z ∉ rs := of_decide_eq_false e.symm
    rw [putK_new v c, List.map_append, h]
    unfold addS
    rw [if_neg hz, List.map_append]
    rfl
  | some u =>
    rw [c] at e
    have hz : z ∈ rs := of_decide_eq_true e.symm
    unfold putK addS
    rw [valV_any, c, if_pos hz, if_pos (show (some u).isSome = true from rfl), List.map_map, ← h]
    refine List.map_congr_left fun x _ => ?_
    show (if x.1 = .inr z then (x.1, v) else x).1 = x.1
    split <;> rfl
def spClash : Sp := fun vs H Q _ => ∃ (d : Addr) (kvs : List (Key × V)) (zs : List Str), vs = [.ref d] ∧ H d = some (.dK kvs) ∧ kvs.map (·.1) = zs.map Sum.inr ∧ zs.length ≤ 100 ∧ (∀ z ∈ zs, z.length ≤ 4000 ∧ (aboveS z).length ≤ 10) ∧
  ∀ (H' : Hp) (t : Addr) (R : List Str), Same H H' → H' t = some (.tup (R.map V.str)) → (R = [] ↔ ∀ z ∈ zs, ∀ f ∈ aboveS z, f ∉ zs) → (∀ r ∈ R, r ∈ zs) → Q (.ref t) H'
abbrev nClash : List Str := ["paths", "found", "path", "front"]
theorem scClash : FnScope nClash ["paths"] (defScope sClash) := ⟨rfl, rfl, rfl, by decide +kernel, rfl, by decide +kernel, by decide +kernel⟩
theorem ok_clash (F : GF K mg "clashes" sClash) (G : Cal P w K mg base CX0 1 "above" ["path"] spAbove) (B : Fr mg) : Cal P w K mg base CX0 2 "clashes" ["paths"] spClash := by
  refine cal0 F scClash (fun _ _ _ _ _ _ us hl => match us, hl with | [_], _ => rfl) (fun vs H Q E h => ?_) (fun cdv A outer s H vs Q E hr h => ?_)
  · obtain ⟨d, kvs, zs, rfl, _⟩ := h
    rfl
  · obtain ⟨d, kvs, zs, rfl, hd, hkeys, hl, hz, k⟩ := h
    refine ⟨_, pss_cons (ps_set (i := 1) scClash.nd rfl (Or.inl rfl) pe_dnewK)
      (pss_cons (ps_lock (ps_for (g := gName 2) PassesOwn.never rfl (pi_keys (pv 0)) (pg_name (i := 2) scClash.nd rfl (Or.inl rfl))
        (pss_one (ps_for (g := gName 3) PassesOwn.never rfl (pi_list (pcal G hr (by rfl) pass0 (pa_cons (pv 2) pa_nil))) (pg_name (i := 3) scClash.nd rfl (Or.inl rfl))
          (pss_one (ps_if (pt_cmp (pc_din (hu_of hr) (pv 3) (pv 0))) (pss_cons (ps_dput (hu_of hr) (pv 1) (pv 2) pe_bl (by rfl)) (pss_one (ps_dput (hu_of hr) (pv 1) (pv 3) pe_bl (by rfl)))) pss_nil))))))
      (pss_one (ps_ret (pe_callTy call_tuple_of (by rfl) B.tuple (by decide +kernel) (pa_cons (pe_callB (call_sortedDA rfl) (by rfl) B.sorted (by decide +kernel) (pa_cons (pv 1) pa_nil)) pa_nil))))), ?_⟩
    intro fd hfd
    have nfd : d ≠ fd := ne_of_none hd hfd
    refine ⟨d, .dK kvs, by rw [upd_ne nfd]; exact hd, trivial, fun od => ?_⟩
    generalize hHl : upd (upd H fd (.dK [])) d (.frz od (.dK kvs)) = Hl
    have hld : Hl d = some (.frz od (.dK kvs)) := by rw [← hHl]; exact upd_same
    have hlf : Hl fd = some (.dK []) := by rw [← hHl, upd_ne nfd.symm]; exact upd_same
    have hlen : kvs.length = zs.length := by
      have := congrArg List.length hkeys
      rwa [List.length_map, List.length_map] at this
    -- all but fd
    refine ⟨_, rfl, d, od, rfl, .inl ⟨kvs, hld, for_of (n := kvs.length) (fun i σ H' => (∃ x2 x3, σ = [some (.ref d), some (.ref fd), x2, x3]) ∧ But fd Hl H' ∧ ∃ fkvs rs, H' fd = some (.dK fkvs) ∧ fkvs.map (·.1) = rs.map Sum.inr ∧ (rs = [] ↔ ∀ z ∈ zs.take i, ∀ f ∈ aboveS z, f ∉ zs) ∧ (∀ r ∈ rs, r ∈ zs) ∧ rs.length ≤ 20 * i) ?_ ?_ ?_ ?_ ?_⟩⟩
    · exact ⟨⟨_, _, rfl⟩, fun b o _ e => e, [], [], hlf, rfl, ⟨fun _ z hz => by simp at hz, fun _ => rfl⟩, (fun r hr => (by cases hr)), Nat.zero_le _⟩
    · exact fun i σ H' hi q => ⟨q.2.1 _ _ nfd hld, hi⟩
    · exact fun σ H' q => ⟨q.2.1 _ _ nfd hld, Nat.le_refl _⟩
    · rintro i x σ H1 H2 hi ⟨⟨x2, x3, rfl⟩, s1, fkvs, rs, hf1, hk1, hc1, hm1, hn1⟩ ⟨rfl, kk, v, hkv, rfl⟩
      have hz1 : ∃ z, zs[i]? = some z ∧ kk = .inr z := by
        have e : (kvs.map (·.1))[i]? = some kk := by rw [List.getElem?_map, hkv]; rfl
        rw [hkeys, List.getElem?_map] at e
        cases c : zs[i]? with
        | none => rw [c] at e; cases e
        | some z => rw [c] at e; exact ⟨z, rfl, (Option.some.inj e).symm⟩
      obtain ⟨z, hzi, rfl⟩ := hz1
      have hzm := List.mem_of_getElem? hzi
      obtain ⟨hz4, hz10⟩ := hz z hzm
      refine ⟨_, rfl, z, rfl, hz4, fun H3 p s2 hp0 hp3 => ?_⟩
      have nfp : fd ≠ p := ne_of_none hf1 hp0
      refine ⟨p, rfl, ⟨_, SqL.of hp3⟩, for_list (K := K) (a := p) (xs := (aboveS z).map V.str) (fun j σ H' => (∃ x3, σ = [some (.ref d), some (.ref fd), some (.str z), x3]) ∧ But fd Hl H' ∧ H' p = some (.lst ((aboveS z).map V.str)) ∧ ∃ fkvs rs, H' fd = some (.dK fkvs) ∧ fkvs.map (·.1) = rs.map Sum.inr ∧
        (rs = [] ↔ (∀ z ∈ zs.take i, ∀ f ∈ aboveS z, f ∉ zs) ∧ ∀ f ∈ (aboveS z).take j, f ∉ zs) ∧ (∀ r ∈ rs, r ∈ zs) ∧ rs.length ≤ 20 * i + 2 * j) ?_ ?_ ?_ ?_⟩
      · exact ⟨⟨_, rfl⟩, fun b o n e => s2 _ _ (s1 b o n e), hp3, fkvs, rs, s2 _ _ hf1, hk1, by rw [hc1]; simp, hm1, by omega⟩
      · exact fun j σ H' _ q => SqL.of q.2.2.1
      · rintro j y σ H4 hy ⟨⟨x3, rfl⟩, s4, hp4, fkvs, rs, hf4, hk4, hc4, hm4, hn4⟩
        obtain ⟨f, hf, rfl⟩ : ∃ f, (aboveS z)[j]? = some f ∧ y = V.str f := by
          rw [List.getElem?_map] at hy
          cases e : (aboveS z)[j]? with
          | none => rw [e] at hy; cases hy
          | some f => rw [e] at hy; exact ⟨f, rfl, (Option.some.inj hy).symm⟩
        have hd4 : H4 d = some (.frz od (.dK kvs)) := s4 _ _ nfd hld
        have hj : j < 10 := by have := (List.getElem?_eq_some_iff.mp hf).1; omega
        refine ⟨_, rfl, _, rfl, d, _, rfl, .inl ⟨kvs, .inr f, .inr ⟨od, hd4⟩, rfl, rfl⟩, _, rfl, ?_⟩
        rw [keys_any hkeys f]
        have htk : (aboveS z).take (j + 1) = (aboveS z).take j ++ [f] := by rw [List.take_add_one, hf]; rfl
        refine ite2 (fun c => ?_) (fun c => ?_)
        · have hfz : f ∈ zs := of_decide_eq_true c
          have hi100 : i < 100 := by omega
          have hn : rs.length ≤ 2020 := by omega
          have hl1 : fkvs.length = rs.length := by have := congrArg List.length hk4; rwa [List.length_map, List.length_map] at this
          have hk5 := keys_putK hk4 z (.bl true)
          have hk6 := keys_putK hk5 f (.bl true)
          have hl2 : (putK fkvs (.inr z) (.bl true)).length ≤ fkvs.length + 1 := length_putK _ _ _
          refine ⟨_, rfl, _, rfl, fd, _, rfl, .inl ⟨fkvs, .inr z, hf4, rfl, line_lt (by omega), rfl⟩, ?_⟩
          refine ⟨_, rfl, _, rfl, fd, _, rfl, .inl ⟨_, .inr f, upd_same, rfl, line_lt (by omega), rfl⟩, ?_⟩
          rw [upd_upd]
          refine ⟨⟨_, rfl⟩, s4.trans (But.self (Same.refl _)), by rw [upd_ne nfp.symm]; exact hp4, _, _, upd_same, hk6, ?_, ?_, ?_⟩
          · refine ⟨fun e => absurd e addS_ne, fun ⟨_, q⟩ => absurd hfz (q f (by rw [htk]; simp))⟩
          · intro r hr
            rcases addS_mem.mp hr with hr | rfl
            · rcases addS_mem.mp hr with hr | rfl
              · exact hm4 r hr
              · exact hzm
            · exact hfz
          · have h1 := addS_len (rs := addS rs z) (z := f)
            have h2 := addS_len (rs := rs) (z := z)
            omega
        · have hfz : f ∉ zs := fun q => c (decide_eq_true q)
          refine ⟨⟨_, rfl⟩, s4, hp4, fkvs, rs, hf4, hk4, ?_, hm4, by omega⟩
          rw [hc4, htk]
          constructor
          · rintro ⟨q1, q2⟩
            refine ⟨q1, fun g hg => ?_⟩
            rcases List.mem_append.mp hg with hg | hg
            · exact q2 g hg
            · rw [List.mem_singleton.mp hg]; exact hfz
          · rintro ⟨q1, q2⟩
            exact ⟨q1, fun g hg => q2 g (List.mem_append_left _ hg)⟩
      · rintro σ H4 ⟨⟨x3, rfl⟩, s4, hp4, fkvs, rs, hf4, hk4, hc4, hm4, hn4⟩
        rw [List.length_map] at hn4 hc4
        refine ⟨⟨_, _, rfl⟩, s4, fkvs, rs, hf4, hk4, ?_, hm4, by omega⟩
        rw [hc4, List.take_add_one, hzi, List.take_length]
        constructor
        · rintro ⟨q1, q2⟩ y hy
          rcases List.mem_append.mp hy with hy | hy
          · exact q1 y hy
          · have hy' : y = z := by simpa using hy
            rw [hy']
            exact q2
        · intro q
          exact ⟨fun y hy => q y (List.mem_append_left _ hy), q z (by simp)⟩
    · rintro σ H1 ⟨⟨x2, x3, rfl⟩, s1, fkvs, rs, hf1, hk1, hc1, hm1, hn1⟩
      refine ⟨s1 _ _ nfd hld, ?_⟩
      rw [hlen, List.take_length] at hc1
      have sU : Same H (upd H1 d (.dK kvs)) := fun b o e => by
        by_cases c : b = d
        · subst c; rw [hd] at e; rw [upd_same]; exact e
        · rw [upd_ne c]
          exact s1 b o (ne_of_none e hfd) (by rw [← hHl, upd_ne c, upd_ne (ne_of_none e hfd)]; exact e)
      refine ⟨_, rfl, fd, fkvs, rs, rfl, .inl (by rw [upd_ne nfd.symm]; exact hf1), hk1, by omega, fun ys p hperm hsort hp => ?_⟩
      refine ⟨p, _, rfl, .inl ⟨SqL.of upd_same, fun t ht => k _ t ys ((sU.new' hp).new' ht) upd_same ?_ fun r hr => hm1 r (hperm.mem_iff.mp hr)⟩⟩
      rw [← hc1]
      constructor
      · intro e; subst e; exact List.Perm.nil_eq hperm |>.symm
      · intro e; subst e; exact List.Perm.eq_nil hperm
end
end FK

/-! Forkhaul k08: dicts whose keys are of any type, walked by their keys. -/
namespace L2
open PySem PySem.Spec PyProof.Rows
/-- the heap holds at d a dict with these keys -/
def rawP (d : Addr) (ks : List V) : Heap → Prop := fun h => (d == sysModules) = false ∧ ∃ o es ep, h.get? d = some o ∧ o.ExactDict ∧ o.data = .dict es ep ∧ Vals ks (es.toList.map (·.key))
abbrev RawO (d : Addr) (ks : List V) : HO := .ext (rawP d ks)
theorem rawP.keep {d : Addr} {ks : List V} : ∀ h1 h2 : Heap, rawP d ks h1 → (∀ o, h1.get? d = some o → h2.get? d = some o) → rawP d ks h2 := fun h1 h2 ⟨a, o, es, ep, e, r⟩ k => ⟨a, o, es, ep, k _ e, r⟩
theorem rawO_ok {P : Program} {w : World} {H : Hp} {h : Heap} {d : Addr} {ks : List V} (x : rawP d ks h) : ObjOk P w H h d (RawO d ks) := by
  have x' := x
  obtain ⟨_, o, _, _, e, _⟩ := x'
  exact ⟨x, ⟨o, e⟩, rawP.keep⟩
section
variable {X : Cx} {pins : List (Addr × Obj)} {σ : St} {H : Hp} {s : Shared} {d : Addr} {o : Obj}
theorem Inv.frzR {ks : List V} (I : Inv X pins σ H s) (h : H d = some (.frz o (RawO d ks))) :
    (d == sysModules) = false ∧ s.heap.get? d = some o ∧ o.ExactDict ∧ ∃ (es : Array DictEntry) (ep : Nat), o.data = .dict es ep ∧ es.size = ks.length ∧ ∀ (i : Nat) (v : V), ks[i]? = some v → ∃ en, es[i]? = some en ∧ RelV v en.key := by
  obtain ⟨hd, ⟨hs, o', es, ep, ho, hx, hdt, r⟩, _⟩ := I.hok d _ h
  rw [hd] at ho
  cases ho
  have l1 := r.length
  rw [List.length_map, Array.length_toList] at l1
  refine ⟨hs, hd, hx, es, ep, hdt, l1.symm, fun i v e => ?_⟩
  obtain ⟨u, hu, ru⟩ := r.get e
  rw [List.getElem?_map, Array.getElem?_toList] at hu
  cases c : es[i]? with
  | none => rw [c] at hu; cases hu
  | some en => rw [c] at hu; cases hu; exact ⟨en, rfl, ru⟩
end
/-- the keys, in their order -/
def ItRw (d : Addr) (o : Obj) (ks : List V) : It :=
  ⟨fun i H => H d = some (.frz o (RawO d ks)) ∧ i < ks.length, fun i H x H' => H' = H ∧ ks[i]? = some x, fun i H => H d = some (.frz o (RawO d ks)) ∧ ks.length ≤ i⟩
section
variable {P : Program} {w : World} {K : PySem.W.Frag} {tg : Expr} {d : Addr} {o : Obj} {es : Array DictEntry} {ep : Nat}
theorem turn_raw {ks : List V} (it : Addr) (hod : o.data = .dict es ep) : Turn P w K tg (ItRw d o ks) [it] it (fun i h => h.IsKeyIter it d i ks.length ep) where
  mem := by simp
  obj := fun i h st b hb => by
    have e : b = it := by simpa using hb
    subst e
    obtain ⟨oi, e, c, dd⟩ := st
    exact ⟨oi, e, fun v z => by rw [dd] at z; cases z⟩
  keep := fun i h h' st k => st.at fun oi e => k it (by simp) oi e
  item := by
    intro X hP hw hK hc i pins s σ H E I hf st hg
    subst hP hw hK
    obtain ⟨hd, hi⟩ := hg
    obtain ⟨f0, f1, f2, f3, f4, f5⟩ := hf it (by simp)
    obtain ⟨hs, hgd, hx, es', ep', hdt, hsz, ent⟩ := I.frzR hd
    obtain ⟨rfl, rfl⟩ := dict_ep hod hdt
    obtain ⟨v, hkv⟩ : ∃ p, ks[i]? = some p := ⟨ks[i], List.getElem?_eq_getElem hi⟩
    obtain ⟨en, hen, hkey⟩ := ent i v hkv
    refine next_key_item st hgd hdt hsz hen fun h' st' sb => ?_
    have I1 : Inv X pins σ H { s with heap := h' } := I.turned (t' := s.toks) (fun b ob hb e => (sb.2 b hb).trans e) f0 f1 f3 f4 f5
    obtain ⟨oi, e, c, dd⟩ := id st'
    exact ⟨en.key, rfl, go_of (s := { s with heap := h' }) e c dd (by decide) ⟨v, H, I1, hkey, ⟨rfl, hkv⟩, st', fun b hb => (hf b hb).1⟩⟩
  done := by
    intro X hP hw hK hc i pins s σ H E I hf st hg
    subst hP hw hK
    obtain ⟨hd, hi⟩ := hg
    obtain ⟨f0, f1, f2, f3, f4, f5⟩ := hf it (by simp)
    obtain ⟨hs, hgd, hx, es', ep', hdt, hsz, ent⟩ := I.frzR hd
    obtain ⟨rfl, rfl⟩ := dict_ep hod hdt
    exact next_key_end (I.ok.hd hc) st hgd hdt hsz hi fun h' eb => ⟨rfl, I.turned (t' := s.toks) (fun b ob hb e => eb b ob hb e) f0 f1 f3 f4 f5⟩
  self := fun A i s Q E st h => by
    refine wpAny_pyIter_slot st.typeIs F.slot_dict_keyiterator_iter (wpAny_call_entry F.slot_dict_keyiterator_iter st.typeIs F.entry_dict_keyiterator_iter ?_ (F.args_dict_keyiterator_iter_1 _))
    show wpAny _ _ (ret (.ref it)) _ _ s
    exact wpAny_pure ⟨_, rfl, "dict_keyiterator", _, st.typeIs, F.slot_dict_keyiterator_next.lookup, h⟩
end
/-- the dict is locked -/
def iRaw (td : TE) : TI := fun σ H R => td σ H fun x H1 => ∃ d o ks, x = .ref d ∧ H1 d = some (.frz o (RawO d ks)) ∧ R (ItRw d o ks) H1
section
variable {X : Cx} {tg e : Expr} {td : TE}
theorem pi_raw (he : PE X e td) : PI X tg e (iRaw td) := by
  refine ⟨fun pins s σ H R I h => ?_⟩
  refine thn (he.run pins s σ H _ I h) fun u s1 ⟨x, H1, I1, rx, d, o, ks, ex, hd, q⟩ => ?_
  subst ex
  obtain rfl : u = Value.ref d := rx
  obtain ⟨hs, hgd, hx, es, ep, hdt, hsz, ent⟩ := I1.frzR hd
  refine iter_keys hs hgd hx hdt (pi_one (tk := s1.toks) I1 _ (turn_raw _ hdt) ⟨_, Heap.get?_push_size _ rfl, rfl, ?_⟩ q)
  rw [hsz] <;> rfl
/-- isinstance(d, dict) of such a dict -/
theorem call_isiRaw : CallR X (.builtin "isinstance") (fun xs H Q => ∃ d ks, xs = [.ref d, .ty "dict"] ∧ H d = some (RawO d ks) ∧ Q (.bl true) H) := by
  intro pins s σ H xs us Q I r h
  obtain ⟨d, ks, rfl, hd, q⟩ := h
  obtain ⟨u1, u2, rfl, r1, r2⟩ := vals2 r
  cases r2
  cases r1
  obtain ⟨⟨_, o, es, ep, h1, h2, _⟩, _⟩ := I.hok d _ hd
  exact PySem.W.kia_one PySem.W.kitx_dict I.kIn ⟨o, h1, h2.1⟩ (kit_ty (show kitB "dict" "dict" = some true by decide +kernel)) (fun z => nomatch z) fun tk => ⟨.bl true, H, I.tok tk, rfl, q⟩
end
end L2

/-! Forkhaul k08: check_files. -/
namespace FK
open PySem PySem.Spec PyProof.Rows L2 TL
open PySem.W (Frag)
def pathK : Key → Bool
  | .inl _ => false
  | .inr z => isPathS z
def Clash (zs : List Str) : Prop := ∃ z ∈ zs, ∃ f ∈ aboveS z, f ∈ zs
def keysZ (kvs : List (Key × V)) : List Str := kvs.filterMap fun p => match p.1 with | .inr z => some z | .inl _ => none
theorem keysZ_of {kvs : List (Key × V)} (h : (kvs.all fun p => pathK p.1) = true) : kvs.map (·.1) = (keysZ kvs).map Sum.inr := by
  induction kvs with
  | nil => rfl
  | cons p r ih =>
    rw [List.all_cons, Bool.and_eq_true] at h
    obtain ⟨k, v⟩ := p
    cases k with
    | inl i => exact absurd h.1 (by show ¬ (false = true); simp)
    | inr z =>
      show Sum.inr z :: r.map (·.1) = Sum.inr z :: (keysZ r).map Sum.inr
      rw [ih h.2]
theorem keysZ_map {kvs : List (Key × V)} {zs : List Str} (h : kvs.map (·.1) = zs.map Sum.inr) : keysZ kvs = zs := by
  induction kvs generalizing zs with
  | nil => cases zs with | nil => rfl | cons _ _ => cases h
  | cons p r ih =>
    cases zs with
    | nil => cases h
    | cons z l =>
      obtain ⟨k, v⟩ := p
      have h1 : k = .inr z := (List.cons.inj h).1
      subst h1
      show z :: keysZ r = z :: l
      rw [ih (List.cons.inj h).2]
theorem above_len {z : Str} (h : isPathS z = true) : (aboveS z).length ≤ 10 := by
  unfold isPathS at h
  rw [Bool.and_eq_true] at h
  have := of_decide_eq_true h.1
  unfold aboveS
  rw [List.length_map, List.length_range]
  omega
theorem dp_strs {K : Frag} {H : Hp} : ∀ R : List Str, DpAll K H (R.map V.str) (R.map PyData.str)
  | [] => .nil
  | x :: r => .cons (.str x) (dp_strs r)
theorem shaped_strs {R : List Str} (h : ∀ r ∈ R, txOk r = true) : SeqAt.shaped (.tuple (R.map PyData.str)) = true := by
  unfold SeqAt.shaped
  rw [Bool.and_eq_true]
  refine ⟨lay_all PyData.str R fun e he => h e he, decide_eq_true ?_⟩
  show PyData.depthAll (R.map PyData.str) + 1 ≤ 64
  have := depth_all PyData.str 0 R fun e _ => Nat.le_refl _
  omega
structure ChkA (K : Frag) (H : Hp) (d : Addr) (kvs : List (Key × V)) (os : List (Option (Str × Str))) : Prop where
  at_ : H d = some (.dK kvs)
  len : kvs.length ≤ 100
  short : ∀ p ∈ kvs, ∀ z, p.1 = .inr z → z.length ≤ 4000 ∧ txOk z = true
  vals : Paired (fun (p : Key × V) o => ValC K H p.2 o) kvs os
def pathsOk (kvs : List (Key × V)) : Prop := (kvs.all fun p => pathK p.1) = true ∧ ¬ Clash (keysZ kvs)
def valsOk (os : List (Option (Str × Str))) : Bool := os.all fun o => o.elim false valueOk
def keyO : Key → Option Str
  | .inl _ => none
  | .inr z => some z
theorem keyO_path (k : Key) : (keyO k).elim false isPathS = pathK k := by cases k <;> rfl
theorem keyO_or {K : Frag} {H : Hp} {k : Key} (h : ∀ z, k = .inr z → z.length ≤ 4000) : StrOr K H (kV k) (keyO k) := by
  cases k with
  | inl i => exact ⟨_, .base (.int i), by decide +kernel⟩
  | inr z => exact ⟨rfl, Nat.le_trans (h z rfl) (by decide)⟩
theorem eqv_nil (R : List Str) : PyData.eqv (.tuple (R.map PyData.str)) (.tuple []) = decide (R = []) := by
  cases R with
  | nil => rfl
  | cons x r => rfl
section
variable {P : Program} {w : World} {K : Frag} {mg : Str → Option Value} {base : Heap}
def spChk (K : Frag) : Sp := fun vs H Q E => ∃ v, vs = [v] ∧
  ((∃ d kvs os, v = .ref d ∧ ChkA K H d kvs os ∧ (¬ pathsOk kvs → ∀ H' dd, Same H H' → E (.ref (ca K "BadPath")) (some dd) H') ∧
      (pathsOk kvs → valsOk os = false → ∀ H' dd, Same H H' → E (.ref (ca K "BadName")) (some dd) H') ∧ (pathsOk kvs → valsOk os = true → ∀ H', Same H H' → Q .non H')) ∨
   (∃ t, TyX K H v (.type t) ∧ kitB t "dict" = some false ∧ ∀ H' dd, Same H H' → E (.ref (ca K "BadPath")) (some dd) H') ∨
   (∃ d ks os, v = .ref d ∧ H d = some (RawO d ks) ∧ ks.length ≤ 100 ∧ Paired (KeyC H) ks os ∧ (os.all fun o => o.elim false isPathS) = false ∧ ∀ H' dd, Same H H' → E (.ref (ca K "BadPath")) (some dd) H'))
abbrev nChk : List Str := ["files", "path", "value"]
theorem scChk : FnScope nChk ["files"] (defScope sChk) := ⟨rfl, rfl, rfl, by decide +kernel, rfl, by decide +kernel, by decide +kernel⟩
theorem ok_chk (F : GF K mg "check_files" sChk) (GP : Cal P w K mg base CX0 3 "is_path" ["thing"] (spS K isPathS)) (GV : Cal P w K mg base CX0 3 "is_value" ["thing"] (spVal K)) (GC : Cal P w K mg base CX0 2 "clashes" ["paths"] spClash)
    (B : Fr mg) (X : Exs P w K mg base) : Cal P w K mg base (L2.CX P w) 4 "check_files" ["files"] (spChk K) := by
  refine calX F scChk (fun _ _ _ _ _ _ us hl => match us, hl with | [_], _ => rfl) (fun vs H Q E h => ?_) (fun cdv A outer s H vs Q E hr h => ?_)
  · obtain ⟨v, rfl, _⟩ := h
    rfl
  · obtain ⟨v, rfl, h⟩ := h
    rcases h with ⟨d, kvs, os, rfl, hA, kP, kN, kQ⟩ | ⟨t, ty, e, kP⟩ | ⟨d, ks, os, rfl, hd, hl, hp, hbad, kP⟩
    · -- a dict
      refine ⟨_, pss_cons (ps_if (pt_not (pt_val (pe_callB call_isi (by rfl) B.isi (by decide +kernel) (pa_cons (pv 0) (pa_cons (pe_bltn (v := .ty "dict") (by rfl) B.dict (by decide +kernel) rfl) pa_nil))))) pss_never pss_nil)
        (pss_cons (ps_if (PW.pt (pw_or (pt_not (pt_val (pe_lock (pe_callB (cr_all rfl) (by rfl) B.all (by decide +kernel) (pa_cons (pe_lc (own := [("path", 1)]) (g := gName 1) (tt := tYes) rfl scChk.nd (pi_keys (pv 0)) (blkOk_by (N := nChk) (sc := defScope sChk) (by decide +kernel))
            (fun _ _ _ _ _ => pg_name (i := 1) scChk.nd rfl (Or.inl rfl)) (fun _ _ _ _ _ => pts_nil) (fun _ _ _ _ _ => pcal GP hr (by rfl) pass0 (pa_cons (pv 1) pa_nil))) pa_nil)))))
            (pw_or1 (pt_cmpR (op_neD hr.units) (pcal (GC.mono (by decide : 2 ≤ 3)) hr (by rfl) pass0 (pa_cons (pv 0) pa_nil)) (pe_tup pa_nil) rfl))))
            (pss_one (ps_raiseE rfl X.eP X.gP hr (takes_of rfl rfl rfl rfl) (by exact (pa_cons pe_str pa_nil)))) pss_nil)
        (pss_one (ps_if (pt_not (pt_val (pe_lock (pe_callB (cr_all rfl) (by rfl) B.all (by decide +kernel) (pa_cons (pe_lc (own := [("value", 2)]) (g := gName 2) (tt := tYes) rfl scChk.nd (pi_values (pv 0)) (blkOk_by (N := nChk) (sc := defScope sChk) (by decide +kernel))
            (fun _ _ _ _ _ => pg_name (i := 2) scChk.nd rfl (Or.inl rfl)) (fun _ _ _ _ _ => pts_nil) (fun _ _ _ _ _ => pcal GV hr (by rfl) pass0 (pa_cons (pv 2) pa_nil))) pa_nil)))))
            (pss_one (ps_raiseE rfl X.eN X.gN hr (takes_of rfl rfl rfl rfl) (by exact (pa_cons pe_str pa_nil)))) pss_nil))), ?_⟩
      obtain ⟨hd, hlen, hshort, hvals⟩ := hA
      refine ⟨_, rfl, _, _, _, _, _, rfl, .ty _, .base (.dK hd), kit_ty (show kitB "dict" "dict" = some true by decide +kernel), _, rfl, iteF ?_⟩
      refine ⟨d, .dK kvs, hd, trivial, fun od => ?_⟩
      refine ⟨_, rfl, d, od, rfl, .inl ⟨kvs, upd_same, fun D hD => lc_of (n := kvs.length) (fun i H' => Same (upd H d (.frz od (.dK kvs))) H' ∧ H' D = some (.lst (((kvs.take i).map fun p => pathK p.1).map V.bl)))
        ⟨Same.new hD, upd_same⟩ (fun i H' hi q => ⟨q.1 _ _ upd_same, hi⟩) (fun H' q => ⟨q.1 _ _ upd_same, Nat.le_refl _⟩) ?_ ?_⟩⟩
      · rintro i y H1 H2 hi ⟨s1, l1⟩ ⟨rfl, k, v, hkv, rfl⟩
        refine ⟨rfl, _, rfl, kV k, keyO k, rfl, keyO_or fun z e => (hshort _ (List.mem_of_getElem? hkv) z e).1, fun H3 s3 => ?_⟩
        refine ⟨_, s3 _ _ l1, ?_, (s1.trans s3).mut hD, ?_⟩
        · rw [List.length_map, List.length_map]
          exact line_lt (Nat.le_trans (List.length_take_le' _ _) (by omega))
        · rw [upd_same, keyO_path, List.take_add_one, hkv]
          simp
      rintro H1 ⟨s1, l1⟩
      refine ⟨D, _, rfl, SqL.of l1, s1 _ _ upd_same, ?_⟩
      have e2 : ((((kvs.take kvs.length).map fun p => pathK p.1)).all id) = kvs.all fun p => pathK p.1 := by rw [List.take_length, List.all_map]; rfl
      rw [e2]
      have sU : Same H (upd H1 d (.dK kvs)) := Same.unlock hd s1
      cases hb : (kvs.all fun p => pathK p.1) with
      | false =>
        refine ⟨_, rfl, iteT' ?_⟩
        exact iteT' ⟨_, rfl, fun dd hdd => kP (fun q => by have q1 := q.1; rw [hb] at q1; cases q1) _ dd (sU.new' hdd)⟩
      | true =>
        refine ⟨_, rfl, iteF ?_⟩
        have hz := keysZ_of hb
        have hall : ∀ z ∈ keysZ kvs, isPathS z = true ∧ z.length ≤ 4000 ∧ txOk z = true := fun z hm => by
          have : Sum.inr z ∈ kvs.map (·.1) := by rw [hz]; exact List.mem_map_of_mem hm
          obtain ⟨p, hp, e⟩ := List.mem_map.mp this
          have h1 := List.all_eq_true.mp hb p hp
          rw [e] at h1
          exact ⟨h1, hshort p hp z e⟩
        have hzl : (keysZ kvs).length = kvs.length := by
          have := congrArg List.length hz
          rw [List.length_map, List.length_map] at this
          exact this.symm
        refine ⟨_, rfl, d, kvs, keysZ kvs, rfl, upd_same, hz, by omega, fun z hm => ⟨(hall z hm).2.1, above_len (hall z hm).1⟩, fun H2 t R s2 ht hiff hsub => ?_⟩
        refine ⟨Nat.zero_le _, fun p hp => ⟨.tuple (R.map PyData.str), .tuple [], .tup (SqT.of ((Same.new hp) _ _ ht)) (dp_strs R), .tup (SqT.of upd_same) .nil, shaped_strs fun r hr => (hall r (hsub r hr)).2.2, rfl, _, rfl, ?_⟩⟩
        rw [eqv_nil]
        have sV : Same H (upd H2 p (.tup [])) := (sU.trans s2).new' hp
        by_cases hR : R = []
        · rw [decide_eq_true hR]
          refine iteF ?_
          have hok : pathsOk kvs := ⟨hb, fun ⟨z, hm, f, hf, hfz⟩ => hiff.mp hR z hm f hf hfz⟩
          have hd2 : (upd H2 p (.tup [])) d = some (.dK kvs) := sV _ _ hd
          generalize upd H2 p (.tup []) = Hv at sV hd2
          refine ⟨d, .dK kvs, hd2, trivial, fun od2 => ?_⟩
          have hv2 : Paired (fun (p : Key × V) o => ValC K (upd Hv d (.frz od2 (.dK kvs))) p.2 o) kvs os := L2.Paired.mapP hvals fun a b q => (q.same sV).mut hd2 (by intro _ z; cases z) (by intro _ z; cases z)
          refine ⟨_, rfl, d, od2, kvs, rfl, upd_same, fun D2 hD2 => lc_of (n := kvs.length) (fun i H' => Same (upd Hv d (.frz od2 (.dK kvs))) H' ∧ H' D2 = some (.lst (((os.take i).map fun o => o.elim false valueOk).map V.bl)))
            ⟨Same.new hD2, upd_same⟩ (fun i H' hi q => ⟨q.1 _ _ upd_same, hi⟩) (fun H' q => ⟨q.1 _ _ upd_same, Nat.le_refl _⟩) ?_ ?_⟩
          · rintro i y H3 H4 hi ⟨s3, l3⟩ ⟨rfl, k, hkv⟩
            obtain ⟨o, ho, hk⟩ := paired_get hv2 hkv
            refine ⟨rfl, _, rfl, y, o, rfl, hk.same s3, fun H5 s5 => ?_⟩
            refine ⟨_, s5 _ _ l3, ?_, (s3.trans s5).mut hD2, ?_⟩
            · rw [List.length_map, List.length_map]
              exact line_lt (Nat.le_trans (List.length_take_le' _ _) (by rw [← paired_len hvals]; omega))
            · rw [upd_same, List.take_add_one, ho]
              simp
          · rintro H3 ⟨s3, l3⟩
            refine ⟨D2, _, rfl, SqL.of l3, s3 _ _ upd_same, ?_⟩
            have e3 : ((((os.take kvs.length).map fun o => o.elim false valueOk)).all id) = valsOk os := by
              rw [paired_len hvals, List.take_length, List.all_map]; rfl
            rw [e3]
            have sW : Same H (upd H3 d (.dK kvs)) := sV.trans (Same.unlock hd2 s3)
            cases hw : valsOk os with
            | false =>
              refine ⟨_, rfl, iteT' ?_⟩
              exact ⟨_, rfl, fun dd hdd => kN hok hw _ dd (sW.new' hdd)⟩
            | true => exact ⟨_, rfl, iteF (kQ hok hw _ sW)⟩
        · rw [decide_eq_false hR]
          refine iteT' ?_
          exact ⟨_, rfl, fun dd hdd => kP (fun q => hR (hiff.mpr fun z hm f hf hfz => q.2 ⟨z, hm, f, hf, hfz⟩)) _ dd (sV.new' hdd)⟩
    · -- no dict
      refine ⟨_, pss_cons (ps_if (pt_not (pt_val (pe_callB call_isi (by rfl) B.isi (by decide +kernel) (pa_cons (pv 0) (pa_cons (pe_bltn (v := .ty "dict") (by rfl) B.dict (by decide +kernel) rfl) pa_nil)))))
        (pss_one (ps_raiseE rfl X.eP X.gP hr (takes_of rfl rfl rfl rfl) (by exact (pa_cons pe_str pa_nil)))) pss_nil) pss_never, ?_⟩
      refine ⟨_, rfl, _, _, _, _, _, rfl, .ty _, ty, kit_ty e, _, rfl, ?_⟩
      exact iteT' ⟨_, rfl, fun dd hdd => kP _ dd (Same.new hdd)⟩
    · -- a dict with a key that is no path
      refine ⟨_, pss_cons (ps_if (pt_not (pt_val (pe_callB call_isiRaw (by rfl) B.isi (by decide +kernel) (pa_cons (pv 0) (pa_cons (pe_bltn (v := .ty "dict") (by rfl) B.dict (by decide +kernel) rfl) pa_nil))))) pss_never pss_nil)
        (pss_cons (ps_if (PW.pt (pw_or (pt_not (pt_val (pe_lock (pe_callB (cr_all rfl) (by rfl) B.all (by decide +kernel) (pa_cons (pe_lc (own := [("path", 1)]) (g := gName 1) (tt := tYes) rfl scChk.nd (pi_raw (pv 0)) (blkOk_by (N := nChk) (sc := defScope sChk) (by decide +kernel))
            (fun _ _ _ _ _ => pg_name (i := 1) scChk.nd rfl (Or.inl rfl)) (fun _ _ _ _ _ => pts_nil) (fun _ _ _ _ _ => pcal GP hr (by rfl) pass0 (pa_cons (pv 1) pa_nil))) pa_nil)))))
            (pw_or1 (pt_cmpR (op_neD hr.units) (pcal (GC.mono (by decide : 2 ≤ 3)) hr (by rfl) pass0 (pa_cons (pv 0) pa_nil)) (pe_tup pa_nil) rfl))))
            (pss_one (ps_raiseE rfl X.eP X.gP hr (takes_of rfl rfl rfl rfl) (by exact (pa_cons pe_str pa_nil)))) pss_nil) pss_never), ?_⟩
      refine ⟨_, rfl, d, ks, rfl, hd, _, rfl, iteF ?_⟩
      refine ⟨d, RawO d ks, hd, trivial, fun od => ?_⟩
      have hp' : Paired (KeyC (upd H d (.frz od (RawO d ks)))) ks os := L2.Paired.mapP hp fun a b q => q.mut hd (by intro _ z; cases z)
      refine ⟨_, rfl, d, od, ks, rfl, upd_same, fun D hD => lc_of (n := ks.length) (fun i H' => Same (upd H d (.frz od (RawO d ks))) H' ∧ H' D = some (.lst (((os.take i).map fun o => o.elim false isPathS).map V.bl)))
        ⟨Same.new hD, upd_same⟩ (fun i H' hi q => ⟨q.1 _ _ upd_same, hi⟩) (fun H' q => ⟨q.1 _ _ upd_same, Nat.le_refl _⟩) ?_ ?_⟩
      · rintro i y H1 H2 hi ⟨s1, l1⟩ ⟨rfl, hy⟩
        obtain ⟨o, ho, hk⟩ := paired_get hp' hy
        refine ⟨rfl, _, rfl, y, o, rfl, (hk.same s1).or, fun H3 s3 => ?_⟩
        refine ⟨_, s3 _ _ l1, ?_, (s1.trans s3).mut hD, ?_⟩
        · rw [List.length_map, List.length_map]
          exact line_lt (Nat.le_trans (List.length_take_le' _ _) (by rw [← paired_len hp]; omega))
        · rw [upd_same, List.take_add_one, ho]
          simp
      · rintro H1 ⟨s1, l1⟩
        refine ⟨D, _, rfl, SqL.of l1, s1 _ _ upd_same, ?_⟩
        have e1 : os.take ks.length = os := List.take_of_length_le (by rw [paired_len hp]; exact Nat.le_refl _)
        have e2 : ((os.map fun o => o.elim false isPathS).all id) = false := by rw [List.all_map]; exact hbad
        rw [e1, e2]
        refine ⟨_, rfl, iteT' ?_⟩
        exact iteT' ⟨_, rfl, fun dd hdd => kP _ dd ((Same.unlock hd s1).new' hdd)⟩
end
end FK

/-! Forkhaul k08: rows, the mathematics; put_below. -/
namespace FK
open PySem PySem.Spec PyProof.Rows L2 TL
open PySem.W (Frag)
abbrev Row := List Str × (Str × Str)
def fileE : Row → Option (Str × Str × Str)
  | ([x], p) => some (x, p)
  | _ => none
def dirH : Row → Option Str
  | (x :: _ :: _, _) => some x
  | _ => none
def tailR (s : Str) : Row → Option Row
  | (x :: y :: l, p) => if x = s then some (y :: l, p) else none
  | _ => none
def files (R : List Row) : List (Str × Str × Str) := R.filterMap fileE
def dirs (R : List Row) : List Str := (R.filterMap dirH).foldl addS []
def sub (R : List Row) (s : Str) : List Row := R.filterMap (tailR s)
def held : Nat → List Row → List Ent
  | 0, R => ents (files R)
  | n + 1, R => ents (files R ++ (dirs R).map fun s => (s, ("dir" : Str), hid (.tree (held n (sub R s)))))
def trees : Nat → List Row → List Th
  | 0, R => [.tree (held 0 R)]
  | n + 1, R => ((dirs R).flatMap fun s => trees n (sub R s)) ++ [.tree (held (n + 1) R)]
def putAll (ks : List (Str × Th)) (l : List Th) : List (Str × Th) := l.foldl (fun ks t => putS ks (hid t) t) ks
structure RBase (R : List Row) : Prop where
  seg : ∀ r ∈ R, r.1 ≠ [] ∧ (∀ s ∈ r.1, isSegS s = true) ∧ valueOk r.2 = true ∧ r.1.length ≤ 1000
  nd : ((files R).map (·.1) ++ dirs R).Nodup
  len : (files R).length + (dirs R).length < 64
  size : R.length ≤ 1000
def ROk : Nat → List Row → Prop
  | 0, R => RBase R ∧ (files R).length + (dirs R).length ≤ 30 ∧ dirs R = []
  | n + 1, R => RBase R ∧ (files R).length + (dirs R).length ≤ 30 ∧ ∀ s ∈ dirs R, ROk n (sub R s)
theorem files_snoc (R : List Row) (r : Row) : files (R ++ [r]) = files R ++ (fileE r).toList := by
  unfold files
  rw [List.filterMap_append]
  cases h : fileE r <;> simp [h]
theorem sub_snoc (R : List Row) (r : Row) (s : Str) : sub (R ++ [r]) s = sub R s ++ (tailR s r).toList := by
  unfold sub
  rw [List.filterMap_append]
  cases h : tailR s r <;> simp [h]
theorem dirs_snoc (R : List Row) (r : Row) : dirs (R ++ [r]) = match dirH r with | none => dirs R | some s => addS (dirs R) s := by
  unfold dirs
  rw [List.filterMap_append, List.foldl_append]
  cases h : dirH r <;> simp [h]
theorem addS_nodup {l : List Str} {z : Str} (h : l.Nodup) : (addS l z).Nodup := by
  unfold addS
  split
  · exact h
  · rename_i hz
    rw [List.nodup_append]
    refine ⟨h, by simp, fun a ha b hb => ?_⟩
    rw [List.mem_singleton.mp hb]
    exact fun e => hz (e ▸ ha)
theorem foldl_addS_nodup : ∀ (l acc : List Str), acc.Nodup → (l.foldl addS acc).Nodup
  | [], acc, h => h
  | x :: l, acc, h => foldl_addS_nodup l _ (addS_nodup h)
theorem dirs_nodup (R : List Row) : (dirs R).Nodup := foldl_addS_nodup _ _ .nil
theorem foldl_addS_mem {z : Str} : ∀ (l acc : List Str), z ∈ l.foldl addS acc ↔ z ∈ acc ∨ z ∈ l
  | [], acc => by simp
  | x :: l, acc => by
    rw [List.foldl_cons, foldl_addS_mem l, addS_mem, List.mem_cons]
    constructor
    · rintro ((h | h) | h)
      · exact .inl h
      · exact .inr (.inl h)
      · exact .inr (.inr h)
    · rintro (h | h | h)
      · exact .inl (.inl h)
      · exact .inl (.inr h)
      · exact .inr h
theorem dirs_mem {R : List Row} {s : Str} : s ∈ dirs R ↔ ∃ r ∈ R, dirH r = some s := by
  unfold dirs
  rw [foldl_addS_mem, List.mem_filterMap]
  simp
theorem tail_dir {s : Str} {r r' : Row} (h : tailR s r = some r') : dirH r = some s := by
  obtain ⟨l, p⟩ := r
  match l, h with
  | x :: y :: l, h =>
    unfold tailR at h
    by_cases c : x = s
    · subst c; rfl
    · simp [c] at h
theorem sub_nil {R : List Row} {s : Str} (h : s ∉ dirs R) : sub R s = [] := by
  unfold sub
  rw [List.filterMap_eq_nil_iff]
  intro r hr
  cases c : tailR s r with
  | none => rfl
  | some r' => exact absurd (dirs_mem.mpr ⟨r, hr, tail_dir c⟩) h
/-- tables grown -/
def tabE (l0 l : List (Str × Str × Str)) : List (Str × Str × Str) := l.foldl (fun acc f => putS acc f.1 f.2) l0
theorem tabE_app : ∀ (l l0 : List (Str × Str × Str)), ((l0 ++ l).map (·.1)).Nodup → tabE l0 l = l0 ++ l
  | [], l0, _ => by simp [tabE]
  | f :: l, l0, h => by
    show tabE (putS l0 f.1 f.2) l = _
    have hn : valS l0 f.1 = none := by
      rw [valS_none]
      intro hm
      rw [List.map_append, List.nodup_append] at h
      exact h.2.2 _ hm _ (by simp) rfl
    rw [putS_new hn, tabE_app l _ (by simpa using h)]
    simp
theorem tabE_snoc (l0 l : List (Str × Str × Str)) (f : Str × Str × Str) : tabE l0 (l ++ [f]) = putS (tabE l0 l) f.1 f.2 := by
  unfold tabE
  rw [List.foldl_append]
  rfl
theorem putAll_app (ks : List (Str × Th)) (l m : List Th) : putAll ks (l ++ m) = putAll (putAll ks l) m := by
  unfold putAll
  rw [List.foldl_append]
theorem putAll_len : ∀ (l : List Th) (ks : List (Str × Th)), (putAll ks l).length ≤ ks.length + l.length
  | [], ks => by simp [putAll]
  | t :: l, ks => by
    show (putAll (putS ks (hid t) t) l).length ≤ _
    have h1 := putAll_len l (putS ks (hid t) t)
    have h2 := putS_len (l := ks) (k := hid t) (v := t)
    rw [List.length_cons]
    omega
/-- a universe of objects in which ids tell the objects -/
def Inj (U : Th → Prop) : Prop := ∀ t u, U t → U u → hid t = hid u → t = u
def KsOk (U : Th → Prop) (ks : List (Str × Th)) : Prop := ∀ x ∈ ks, x.1 = hid x.2 ∧ U x.2
theorem KsOk.put {U : Th → Prop} {ks : List (Str × Th)} (h : KsOk U ks) {t : Th} (u : U t) : KsOk U (putS ks (hid t) t) := fun x hx => by
  rcases putS_mem hx with rfl | hx
  · exact ⟨rfl, u⟩
  · exact h x hx
theorem KsOk.all {U : Th → Prop} : ∀ {l : List Th} {ks : List (Str × Th)}, KsOk U ks → (∀ t ∈ l, U t) → KsOk U (putAll ks l)
  | [], _, h, _ => h
  | t :: l, ks, h, hl => KsOk.all (l := l) (h.put (hl t List.mem_cons_self)) fun u hu => hl u (List.mem_cons_of_mem _ hu)
theorem KsOk.val {U : Th → Prop} {ks : List (Str × Th)} (i : Inj U) (h : KsOk U ks) {t : Th} (u : U t) : valS ks (hid t) = none ∨ valS ks (hid t) = some t := by
  cases c : valS ks (hid t) with
  | none => exact .inl rfl
  | some v =>
    have := h _ (valS_some c)
    have e : v = t := i v t this.2 u this.1.symm
    rw [e]
    exact .inr rfl
theorem value_kind {p : Str × Str} (h : valueOk p = true) : isKind p.1 = true ∧ isIdS p.2 = true := by
  unfold valueOk at h
  rw [Bool.and_eq_true] at h
  refine ⟨?_, h.2⟩
  unfold isKind
  rw [h.1]
  rfl
theorem file_row {r : Row} {f : Str × Str × Str} (h : fileE r = some f) : r = ([f.1], f.2) := by
  obtain ⟨l, p⟩ := r
  match l, h with
  | [x], h => cases h; rfl
theorem dir_row {r : Row} {s : Str} (h : dirH r = some s) : s ∈ r.1 := by
  obtain ⟨l, p⟩ := r
  match l, h with
  | x :: y :: l, h => cases h; exact List.mem_cons_self
/-- the entries of a tree of rows -/
def entL (n : Nat) (R : List Row) : List (Str × Str × Str) := files R ++ (dirs R).map fun s => (s, ("dir" : Str), hid (.tree (held n (sub R s))))
theorem entL_keys (n : Nat) (R : List Row) : (entL n R).map (·.1) = (files R).map (·.1) ++ dirs R := by
  unfold entL
  rw [List.map_append, List.map_map]
  congr 1
  exact List.map_id _
theorem entL_ok {n : Nat} {R : List Row} (h : RBase R) : ∀ e ∈ entL n R, EntOk e := by
  intro e he
  rcases List.mem_append.mp he with he | he
  · obtain ⟨r, hr, hf⟩ := List.mem_filterMap.mp he
    have h1 := h.seg r hr
    have h2 := file_row hf
    rw [h2] at h1
    have h3 := value_kind h1.2.2.1
    exact ⟨h1.2.1 e.1 (by simp), h3.1, h3.2⟩
  · obtain ⟨s, hs, rfl⟩ := List.mem_map.mp he
    obtain ⟨r, hr, hd⟩ := dirs_mem.mp hs
    exact ⟨(h.seg r hr).2.1 s (dir_row hd), by show isKind "dir" = true; decide +kernel, hid_id _⟩
theorem ents_mem {l : List (Str × Str × Str)} {e : Ent} (h : e ∈ ents l) : e ∈ l := by
  obtain ⟨n, hn, he⟩ := List.mem_filterMap.mp h
  cases c : valS l n with
  | none => rw [c] at he; cases he
  | some p => rw [c] at he; cases he; exact valS_some c
theorem ents_keys {l : List (Str × Str × Str)} (n : (l.map (·.1)).Nodup) : (ents l).map (·.1) = srt (l.map (·.1)) := by
  obtain ⟨h1, h2⟩ := ents_get n
  apply List.ext_getElem?
  intro i
  rw [List.getElem?_map]
  cases c : (srt (l.map (·.1)))[i]? with
  | none =>
    have : (ents l)[i]? = none := by
      rw [List.getElem?_eq_none_iff] at c ⊢
      rw [srt_len, List.length_map] at c
      omega
    rw [this]; rfl
  | some z =>
    obtain ⟨p, _, e⟩ := h2 i z c
    rw [e]; rfl
theorem ents_ok {l : List (Str × Str × Str)} (n : (l.map (·.1)).Nodup) (hl : l.length ≤ 64) (h : ∀ e ∈ l, EntOk e) : TreeOk (ents l) := by
  refine ⟨?_, by rw [(ents_get n).1]; exact hl, fun e he => h e (ents_mem he)⟩
  rw [ents_keys n]
  exact srt_nodup n
theorem entL_len (n : Nat) (R : List Row) : (entL n R).length = (files R).length + (dirs R).length := by
  unfold entL
  rw [List.length_append, List.length_map]
theorem held_eq {n : Nat} {R : List Row} (h : ROk n R) : held n R = ents (entL (n - 1) R) := by
  cases n with
  | zero =>
    show ents (files R) = _
    unfold entL
    rw [h.2.2]
    simp
  | succ n => rfl
theorem ROk.base {n : Nat} {R : List Row} (h : ROk n R) : RBase R := by
  cases n with
  | zero => exact h.1
  | succ n => exact h.1
theorem held_ok {n : Nat} {R : List Row} (h : ROk n R) : TreeOk (held n R) := by
  rw [held_eq h]
  exact ents_ok (by rw [entL_keys]; exact h.base.nd) (by rw [entL_len]; exact Nat.le_of_lt h.base.len) (entL_ok h.base)
end FK

/-! Forkhaul k08: put_below. -/
namespace FK
open PySem PySem.Spec PyProof.Rows L2 TL
open PySem.W (Frag)
/-- a row: a tuple of a locked list of segments, and a value -/
def RowAt (H : Hp) (v : V) (r : Row) : Prop := ∃ q l od vv, v = .ref q ∧ H q = some (.tup [.ref l, vv]) ∧ H l = some (.frz od (.lst (r.1.map V.str))) ∧ PairAt H vv r.2
theorem RowAt.same {H H' : Hp} {v : V} {r : Row} (s : Same H H') (h : RowAt H v r) : RowAt H' v r := by
  obtain ⟨q, l, od, vv, e, h1, h2, h3⟩ := h
  exact ⟨q, l, od, vv, e, s _ _ h1, s _ _ h2, h3.same s⟩
theorem RowAt.mut {H : Hp} {v : V} {r : Row} {d : Addr} {u o : HO} (h : RowAt H v r) (hd : H d = some u) (h1 : ∀ xs, u ≠ .tup xs) (h2 : ∀ od xs, u ≠ .frz od (.lst xs)) : RowAt (upd H d o) v r := by
  obtain ⟨q, l, od, vv, e, a1, a2, a3⟩ := h
  exact ⟨q, l, od, vv, e, by rw [upd_ne (ne_of a1 hd (h1 _).symm)]; exact a1, by rw [upd_ne (ne_of a2 hd (h2 _ _).symm)]; exact a2, a3.mut hd h1⟩
/-- all but kd and e stands -/
def But2 (kd e : Addr) (H H' : Hp) : Prop := ∀ b o, b ≠ kd → b ≠ e → H b = some o → H' b = some o
theorem RowAt.but2 {H H' : Hp} {kd e : Addr} {v : V} {r : Row} {k1 k2 : List (Key × V)} (h : RowAt H v r) (hk : H kd = some (.dK k1)) (he : H e = some (.dK k2)) (s : But2 kd e H H') : RowAt H' v r := by
  obtain ⟨q, l, od, vv, e1, a1, a2, q2, e2, a3⟩ := h
  have n1 : ∀ {b : Addr} {o : HO}, H b = some o → (∀ k, o ≠ .dK k) → H' b = some o := fun hb hn => s _ _ (ne_of hb hk (hn _)) (ne_of hb he (hn _)) hb
  exact ⟨q, l, od, vv, e1, n1 a1 (by intro _ z; cases z), n1 a2 (by intro _ z; cases z), q2, e2, n1 a3 (by intro _ z; cases z)⟩
theorem cut_tail (v : V) (l : List V) : cutV (v :: l) (some 1) none = l := by
  unfold cutV
  have e : HT.sIx (v :: l).length 0 (some 1) = 1 := by
    rw [show (1 : Int) = ((1 : Nat) : Int) from rfl, HT.sIx_nat, List.length_cons]
    omega
  rw [e, HT.sIx_none, List.drop_one, List.tail_cons, List.length_cons, Nat.add_sub_cancel, List.take_length]
theorem bval (f : Str → Addr) (x : Str) : ∀ ss : List Str, valV (ss.map fun s => ((Sum.inr s : Key), V.ref (f s))) (.inr x) = if x ∈ ss then some (.ref (f x)) else none
  | [] => rfl
  | s :: ss => by
    rw [List.map_cons]
    by_cases c : s = x
    · subst c
      rw [valV_pos rfl, if_pos List.mem_cons_self]
    · rw [valV_neg (fun z => c (Sum.inr.inj z)), bval f x ss]
      have : x ≠ s := fun z => c z.symm
      simp [this]
/-- behind the rows Ri: the dict of entries at e, the dict of lists at b, with the keys ss -/
structure PB1 (H H' : Hp) (e b : Addr) (Ri : List Row) (ss : List Str) : Prop where
  same : Same H H'
  en : ∃ ekvs, H' e = some (.dK ekvs) ∧ DR (PairAt H') ekvs (tabE [] (files Ri))
  be : ∃ f : Str → Addr, H' b = some (.dK (ss.map fun s => (.inr s, .ref (f s)))) ∧ (∀ s ∈ ss, H (f s) = none ∧ ∃ lvs, H' (f s) = some (.lst lvs) ∧ Paired (RowAt H') lvs (sub Ri s)) ∧ (∀ s ∈ ss, ∀ t ∈ ss, f s = f t → s = t)
theorem PB1.file {H H' : Hp} {e b : Addr} {Ri : List Row} {ss : List Str} (h : PB1 H H' e b Ri ss) (he : H e = none) (ne : b ≠ e) {x : Str} {p : Str × Str} {vv : V} (hv : PairAt H' vv p) {ekvs : List (Key × V)} (h1 : H' e = some (.dK ekvs)) :
    PB1 H (upd H' e (.dK (putK ekvs (.inr x) vv))) e b (Ri ++ [([x], p)]) ss := by
  obtain ⟨s, ⟨ek, h1', h2⟩, f, h3, h4, h5⟩ := h
  rw [h1] at h1'
  cases h1'
  refine ⟨s.mut he, ⟨_, upd_same, ?_⟩, f, by rw [upd_ne ne]; exact h3, fun t ht => ?_, h5⟩
  · rw [files_snoc]
    show DR _ _ (tabE [] (files Ri ++ [(x, p)]))
    rw [tabE_snoc]
    exact DR.put (h2.imp fun v y q => PairAt.mut (u := .dK ekvs) q h1 (by intro _ z; cases z)) (PairAt.mut (u := .dK ekvs) hv h1 (by intro _ z; cases z))
  · obtain ⟨a1, lvs, a2, a3⟩ := h4 t ht
    refine ⟨a1, lvs, by rw [upd_ne (ne_of a2 h1 (by intro z; cases z))]; exact a2, ?_⟩
    rw [sub_snoc]
    show Paired _ lvs (sub Ri t ++ [])
    rw [List.append_nil]
    exact L2.Paired.mapP a3 fun _ _ q => RowAt.mut (u := .dK ekvs) q h1 (by intro _ z; cases z) (by intro _ _ z; cases z)
/-- a new list is laid -/
theorem PB1.newl {H H' : Hp} {e b : Addr} {Ri : List Row} {ss : List Str} (h : PB1 H H' e b Ri ss) {q : Addr} {o : HO} (hq : H' q = none) : PB1 H (upd H' q o) e b Ri ss := by
  obtain ⟨s, ⟨ek, h1, h2⟩, f, h3, h4, h5⟩ := h
  have sq : Same H' (upd H' q o) := Same.new hq
  exact ⟨s.trans sq, ⟨ek, sq _ _ h1, h2.imp fun v y r => r.same sq⟩, f, sq _ _ h3, fun t ht => let ⟨a1, lvs, a2, a3⟩ := h4 t ht; ⟨a1, lvs, sq _ _ a2, L2.Paired.mapP a3 fun _ _ r => r.same sq⟩, h5⟩
/-- the key x gets the new list at q -/
theorem PB1.key {H H' : Hp} {e b : Addr} {Ri : List Row} (h : PB1 H H' e b Ri (dirs Ri)) (hb : H b = none) (ne : b ≠ e) {x : Str} (hx : x ∉ dirs Ri) {q : Addr} (hq : H q = none) (hq2 : H' q = some (.lst [])) (hfr : ∀ s ∈ dirs Ri, ∀ f : Str → Addr, H' b = some (.dK ((dirs Ri).map fun s => (.inr s, .ref (f s)))) → f s ≠ q) {bk : List (Key × V)} (h3' : H' b = some (.dK bk)) :
    PB1 H (upd H' b (.dK (putK bk (.inr x) (.ref q)))) e b Ri (addS (dirs Ri) x) := by
  obtain ⟨s, ⟨ek, h1, h2⟩, f, h3, h4, h5⟩ := h
  have hfr' : ∀ t ∈ dirs Ri, f t ≠ q := fun t ht => hfr t ht f h3
  rw [h3] at h3'
  cases h3'
  have hss : addS (dirs Ri) x = dirs Ri ++ [x] := by unfold addS; rw [if_neg hx]
  have hval : valV ((dirs Ri).map fun s => ((Sum.inr s : Key), V.ref (f s))) (.inr x) = none := by rw [bval, if_neg hx]
  have qb : q ≠ b := ne_of hq2 h3 (by intro z; cases z)
  refine ⟨s.mut hb, ⟨ek, by rw [upd_ne ne.symm]; exact h1, h2.imp fun v y r => PairAt.mut (u := .dK _) r h3 (by intro _ z; cases z)⟩, fun t => if t = x then q else f t, ?_, fun t ht => ?_, fun t ht u hu => ?_⟩
  · rw [upd_same, putK_new _ hval, hss, List.map_append]
    congr 3
    · refine List.map_congr_left fun t ht => ?_
      have : t ≠ x := fun z => hx (z ▸ ht)
      simp [this]
    · simp
  · rcases addS_mem.mp ht with ht | rfl
    · have : t ≠ x := fun z => hx (z ▸ ht)
      simp only [this, if_false]
      obtain ⟨a1, lvs, a2, a3⟩ := h4 t ht
      exact ⟨a1, lvs, by rw [upd_ne (ne_of a2 h3 (by intro z; cases z))]; exact a2, L2.Paired.mapP a3 fun _ _ r => RowAt.mut (u := .dK _) r h3 (by intro _ z; cases z) (by intro _ _ z; cases z)⟩
    · simp only [if_true]
      refine ⟨hq, [], by rw [upd_ne qb]; exact hq2, ?_⟩
      rw [sub_nil hx]
      exact .nil
  · rcases addS_mem.mp ht with ht1 | e1
    · have n1 : t ≠ x := fun z => hx (z ▸ ht1)
      rcases addS_mem.mp hu with hu1 | e2
      · have n2 : u ≠ x := fun z => hx (z ▸ hu1)
        simp only [n1, n2, if_false]
        exact h5 t ht1 u hu1
      · simp only [n1, e2, if_false, if_true]
        exact fun z => absurd z (hfr' t ht1)
    · rcases addS_mem.mp hu with hu1 | e2
      · have n2 : u ≠ x := fun z => hx (z ▸ hu1)
        simp only [n2, e1, if_false, if_true]
        exact fun z => absurd z.symm (hfr' u hu1)
      · exact fun _ => e1.trans e2.symm
/-- the list of the key x gets a row -/
theorem PB1.row {H H' : Hp} {e b : Addr} {Ri : List Row} {x y : Str} {l : List Str} {p : Str × Str} (h : PB1 H H' e b Ri (addS (dirs Ri) x)) {m : Addr} {lvs : List V} (hm : valV (match H' b with | some (.dK bk) => bk | _ => []) (.inr x) = some (.ref m)) (hl : H' m = some (.lst lvs)) {v : V}
    (hv : RowAt H' v (y :: l, p)) : PB1 H (upd H' m (.lst (lvs ++ [v]))) e b (Ri ++ [(x :: y :: l, p)]) (dirs (Ri ++ [(x :: y :: l, p)])) := by
  obtain ⟨s, ⟨ek, h1, h2⟩, f, h3, h4, h5⟩ := h
  rw [h3] at hm
  simp only at hm
  have hx : x ∈ addS (dirs Ri) x := addS_mem.mpr (.inr rfl)
  rw [bval, if_pos hx] at hm
  have em : f x = m := by injection hm with hm; injection hm
  subst em
  have hd : dirs (Ri ++ [(x :: y :: l, p)]) = addS (dirs Ri) x := by rw [dirs_snoc]; rfl
  rw [hd]
  refine ⟨s.mut (h4 x hx).1, ⟨ek, by rw [upd_ne (ne_of h1 hl (by intro z; cases z))]; exact h1, ?_⟩, f, by rw [upd_ne (ne_of h3 hl (by intro z; cases z))]; exact h3, fun t ht => ?_, h5⟩
  · rw [files_snoc]
    show DR _ _ (tabE [] (files Ri ++ []))
    rw [List.append_nil]
    exact h2.imp fun v y q => PairAt.mut (u := .lst lvs) q hl (by intro _ z; cases z)
  · obtain ⟨a1, lv2, a2, a3⟩ := h4 t ht
    rw [sub_snoc]
    by_cases c : t = x
    · subst c
      rw [hl] at a2
      cases a2
      refine ⟨a1, _, upd_same, ?_⟩
      have e1 : (tailR t (t :: y :: l, p)).toList = [(y :: l, p)] := by unfold tailR; simp
      rw [e1]
      exact paired_snoc (RowAt.mut (u := .lst lvs) hv hl (by intro _ z; cases z) (by intro _ _ z; cases z)) (L2.Paired.mapP a3 fun _ _ r => RowAt.mut (u := .lst lvs) r hl (by intro _ z; cases z) (by intro _ _ z; cases z))
    · refine ⟨a1, lv2, ?_, ?_⟩
      · rw [upd_ne (fun z => c (h5 t ht x hx z))]
        exact a2
      · have e1 : (tailR t (x :: y :: l, p)).toList = [] := by
          unfold tailR
          have : ¬ x = t := fun z => c z.symm
          simp [this]
        rw [e1, List.append_nil]
        exact L2.Paired.mapP a3 fun _ _ r => RowAt.mut (u := .lst lvs) r hl (by intro _ z; cases z) (by intro _ _ z; cases z)
theorem ThAt.mut {K : Frag} {H : Hp} {a d : Addr} {u o : HO} (hd : H d = some u) (h1 : ∀ xs, u ≠ .tup xs) (h2 : ∀ C dx fs, u ≠ .ins C dx fs) : ∀ {t : Th}, ThAt K H a t → ThAt K (upd H d o) a t
  | .blob, ⟨dx, h⟩ => ⟨dx, by rw [upd_ne (ne_of h hd (h2 _ _ _).symm)]; exact h⟩
  | .tree es, ⟨dx, t, rs, a1, a2, a3⟩ => ⟨dx, t, rs, by rw [upd_ne (ne_of a1 hd (h2 _ _ _).symm)]; exact a1, by rw [upd_ne (ne_of a2 hd (h1 _).symm)]; exact a2, L2.Paired.mapP a3 fun _ _ q => EntAt.mut q hd h1⟩
theorem StAt.mut {K : Frag} {H : Hp} {a kd d : Addr} {u o : HO} {ks : List (Str × Th)} (h : StAt K H a kd ks) (hd : H d = some u) (n : d ≠ kd) (h1 : ∀ xs, u ≠ .tup xs) (h2 : ∀ C dx fs, u ≠ .ins C dx fs) : StAt K (upd H d o) a kd ks := by
  obtain ⟨dx, kvs, a1, a2, a3⟩ := h
  exact ⟨dx, kvs, by rw [upd_ne (ne_of a1 hd (h2 _ _ _).symm)]; exact a1, by rw [upd_ne n.symm]; exact a2, a3.imp fun v t ⟨b, e, q⟩ => ⟨b, e, ThAt.mut hd h1 h2 q⟩⟩
theorem ROk.few {n : Nat} {R : List Row} (h : ROk n R) : (files R).length + (dirs R).length ≤ 30 := by
  cases n with
  | zero => exact h.2.1
  | succ n => exact h.2.1
theorem trees_eq {n : Nat} {R : List Row} (h : ROk n R) : trees n R = ((dirs R).flatMap fun s => trees (n - 1) (sub R s)) ++ [.tree (held n R)] := by
  cases n with
  | zero =>
    rw [h.2.2]
    rfl
  | succ n => rfl
abbrev nPB : List Str := ["store", "rows", "entries", "below", "segments", "value", "more", "segment"]
theorem scPB : FnScope nPB ["store", "rows"] (defScope sPB) := ⟨rfl, rfl, rfl, by decide +kernel, rfl, by decide +kernel, by decide +kernel⟩
section
variable {P : Program} {w : World} {K : Frag} {mg : Str → Option Value} {base : Heap}
structure PBIn (K : Frag) (U : Th → Prop) (H : Hp) (a rl kd : Addr) (ks : List (Str × Th)) (R : List Row) : Prop where
  st : StAt K H a kd ks
  rows : ∃ rvs, H rl = some (.lst rvs) ∧ Paired (RowAt H) rvs R
  ok : KsOk U ks
  inj : Inj U
def spPB (K : Frag) : Nat → Sp
  | 0 => fun _ _ _ _ => False
  | m + 1 => fun vs H Q E => ∃ (a rl kd : Addr) (ks : List (Str × Th)) (R : List Row) (U : Th → Prop), vs = [.ref a, .ref rl] ∧ PBIn K U H a rl kd ks R ∧
    ((ROk m R ∧ (∀ t ∈ trees m R, U t) ∧ ks.length + (trees m R).length ≤ 50000 ∧ ∀ H', But kd H H' → StAt K H' a kd (putAll ks (trees m R)) → Q (.str (hid (.tree (held m R)))) H') ∨
     (RBase R ∧ dirs R = [] ∧ 30 < (files R).length ∧ ∀ H' dd, Same H H' → E (.ref (ca K "BadName")) (some dd) H'))
theorem cal_false {x : Str} {st : Stmt} {ps : List Str} {k : Nat} (F : GF K mg x st)
    (hb : ∀ (kV doc pm : Value) (an : Option Addr) (cdv ct : Value) (us : List Value), us.length = ps.length → bindArgs (PySem.W.fnOf x x (defArgs st) (defBody st) (defScope st) .none kV doc pm an cdv ct) ⟨us, []⟩ = pure (ps.zip us)) :
    Cal P w K mg base (L2.CX P w) k x ps (fun _ _ _ _ => False) := by
  obtain ⟨fd, FD⟩ := F.fd
  exact ⟨F.mgx, FD.kp, fd, [], ⟨fun _ _ _ _ h => h.elim, fun _ _ _ _ _ _ _ _ _ _ _ _ _ h => h.elim⟩, FD.bindsN hb, .nil⟩
theorem pb_step {m k : Nat} (hk : 6 ≤ k) (F : GF K mg "put_below" sPB) (G : Cal P w K mg base (L2.CX P w) k "put_below" ["store", "rows"] (spPB K m))
    (GT : CalF P w K mg base (L2.CX P w) 4 (mAt K (ca K "Tree") "__init__") ["self", "entries"] (spTInit K)) (GP : CalF P w K mg base CX0 6 (mAt K (ca K "Store") "put") ["self", "thing"] (spSPut K)) (mP : Meth K (ca K "Store") "put" (mAt K (ca K "Store") "put")) (T : Kit K mg) :
    Cal P w K mg base (L2.CX P w) (k + 1) "put_below" ["store", "rows"] (spPB K (m + 1)) := by
  refine calX F scPB (fun _ _ _ _ _ _ us hl => match us, hl with | [_, _], _ => rfl) (fun vs H Q E h => ?_) (fun cdv A outer s H vs Q E hr h => ?_)
  · obtain ⟨a, rl, kd, ks, R, U, rfl, _⟩ := h
    rfl
  · obtain ⟨a, rl, kd, ks, R, U, rfl, hin, hc⟩ := h
    have B := T.fr
    refine ⟨_, pss_cons (ps_set (i := 2) scPB.nd rfl (Or.inl rfl) pe_dnewK) (pss_cons (ps_set (i := 3) scPB.nd rfl (Or.inl rfl) pe_dnewK)
      (pss_cons (ps_for (g := gTup K 2 (gCons (gName 4) (gCons (gName 5) gNil))) (passes_of rfl) rfl (pi_list (pv 1)) (pg_tup rfl (pgs_cons (pg_name (i := 4) scPB.nd rfl (Or.inl rfl)) (pgs_cons (pg_name (i := 5) scPB.nd rfl (Or.inl rfl)) pgs_nil)))
          (pss_one (ps_if (pt_cmpR op_eq (pe_callB call_len_seq (by rfl) B.len boot_len (pa_cons (pv 4) pa_nil)) pe_int (nomark _))
            (pss_one (ps_dput (hu_of hr) (pv 2) (pe_ix ix_list (pv 4) pe_int (by intro _ _; rfl)) (pv 5) (by rfl)))
            (pss_cons (ps_set (i := 6) scPB.nd rfl (Or.inl rfl) (pe_dsetd (pv 3) (pe_ix ix_list (pv 4) pe_int (by intro _ _; rfl)) (pe_lst pa_nil) ⟨rfl, rfl, rfl, rfl⟩))
            (pss_one (ps_expr (pe_bm PySem.F.plainAttrs_list PySem.F.slot_list_append PySem.F.type_list_append mt_append (pv 6) (pa_cons (pe_tup (pa_cons (pe_frz (pe_slice sl_list (pv 4) (po_some pe_int) po_none)) (pa_cons (pv 5) pa_nil))) pa_nil))))))))
      (pss_cons (ps_lock (ps_for (g := gTup K 2 (gCons (gName 7) (gCons (gName 6) gNil))) (passes_of rfl) rfl (pi_items (pv 3)) (pg_tup rfl (pgs_cons (pg_name (i := 7) scPB.nd rfl (Or.inl rfl)) (pgs_cons (pg_name (i := 6) scPB.nd rfl (Or.inl rfl)) pgs_nil)))
          (pss_one (ps_dput (hu_of hr) (pv 2) (pv 7) (pe_tup (pa_cons pe_str (pa_cons (pcal (E := E) G hr (by rfl) (passX (takes_of rfl rfl rfl rfl)) (pa_cons (pv 0) (pa_cons (pv 6) pa_nil))) pa_nil))) (by rfl)))))
      (pss_one (ps_ret (pmeth (E := E0) GP (pv 0) T.cS mP (hr.mono hk) pass0 (pa_cons (pmake (E := E) GT T.mkT (hr.mono (Nat.le_trans (by decide : 5 ≤ 6) hk)) (by rfl) T.gT (passX (takes_of rfl rfl rfl rfl)) (pa_cons (pv 2) pa_nil)) pa_nil))))))), ?_⟩
    obtain ⟨hst, ⟨rvs, hrl, hrows⟩, hok, hinj⟩ := hin
    have hbase : RBase R := by
      rcases hc with ⟨h, _⟩ | ⟨h, _⟩
      · exact h.base
      · exact h
    intro e he b hb
    have nb : b ≠ e := fun z => by rw [z, upd_same] at hb; cases hb
    have hb0 : H b = none := by rw [upd_ne nb] at hb; exact hb
    have s0 : Same H (upd (upd H e (.dK [])) b (.dK [])) := (Same.new he).trans (Same.new hb)
    refine ⟨_, rfl, rl, rfl, ⟨_, SqL.of (s0 _ _ hrl)⟩, for_list (K := K) (a := rl) (xs := rvs) (fun i σ H' => (∃ x4 x5 x6 x7, σ = [some (.ref a), some (.ref rl), some (.ref e), some (.ref b), x4, x5, x6, x7]) ∧ PB1 H H' e b (R.take i) (dirs (R.take i)))
      ⟨⟨_, _, _, _, rfl⟩, s0, ⟨[], by rw [upd_ne nb.symm]; exact upd_same, .nil⟩, fun _ => 0, upd_same, fun s hs => (by cases hs), fun s hs => (by cases hs)⟩ (fun i σ H' _ q => SqL.of (q.2.same _ _ hrl)) ?_ ?_⟩
    · rintro i yv σ H1 hy ⟨⟨x4, x5, x6, x7, rfl⟩, hp1⟩
      obtain ⟨r, hr', hrow⟩ := paired_get hrows hy
      have hrm := List.mem_of_getElem? hr'
      have htk : R.take (i + 1) = R.take i ++ [r] := by rw [List.take_add_one, hr']; rfl
      obtain ⟨q, l, od, vv, rfl, h1, h2, h3⟩ := RowAt.same hp1.same hrow
      have hsq : SqL K H1 l (r.1.map V.str) := .inl (.inr ⟨od, h2⟩)
      have hi : i < 1000 := by
        have := (List.getElem?_eq_some_iff.mp hr').1
        have := hbase.size
        omega
      refine ⟨q, _, rfl, SqT.of h1, rfl, _, _, rfl, _, _, rfl, rfl, ?_⟩
      refine ⟨_, rfl, l, _, rfl, .inl hsq, rfl, _, rfl, ?_⟩
      obtain ⟨sg, p⟩ := r
      have hseg := hbase.seg _ hrm
      obtain ⟨ekvs, he1, hdr⟩ := hp1.en
      have hel : ekvs.length ≤ 2000 := by
        rw [hdr.len]
        have : ∀ (l l0 : List (Str × Str × Str)), (tabE l0 l).length ≤ l0.length + l.length := by
          intro l
          induction l with
          | nil => intro l0; exact Nat.le_refl _
          | cons f l ih =>
            intro l0
            have h1 := ih (putS l0 f.1 f.2)
            have h2 := putS_len (l := l0) (k := f.1) (v := f.2)
            show (tabE (putS l0 f.1 f.2) l).length ≤ _
            rw [List.length_cons]
            omega
        have h1 := this (files (R.take i)) []
        have h2 : (files (R.take i)).length ≤ (R.take i).length := List.length_filterMap_le _ _
        have h3 := List.length_take_le i R
        rw [List.length_nil] at h1
        omega
      match sg, hseg with
      | [], hseg => exact absurd rfl hseg.1
      | [x], hseg =>
        refine ite2 (fun _ => ?_) (fun c => absurd rfl c)
        refine ⟨_, rfl, _, rfl, _, rfl, l, _, _, _, rfl, rfl, hsq, rfl, e, _, rfl, .inl ⟨ekvs, .inr x, he1, rfl, line_lt (by omega), rfl⟩, ?_⟩
        refine ⟨⟨_, _, _, _, rfl⟩, ?_⟩
        rw [htk]
        have hd : dirs (R.take i ++ [([x], p)]) = dirs (R.take i) := by rw [dirs_snoc]; rfl
        rw [hd]
        exact hp1.file he nb h3 he1
      | x :: y :: tl, hseg =>
        refine ite2 (fun c => ?_) (fun _ => ?_)
        · exfalso
          have c := of_decide_eq_true c
          injection c with c
          simp at c
          omega
        have hp1' := hp1
        obtain ⟨_, _, f, hb1, hfs, hfi⟩ := hp1'
        have hbl : ((dirs (R.take i)).map fun s => ((Sum.inr s : Key), V.ref (f s))).length ≤ 2000 := by
          rw [List.length_map]
          have : ∀ (l acc : List Str), (l.foldl addS acc).length ≤ acc.length + l.length := by
            intro l
            induction l with
            | nil => intro acc; exact Nat.le_refl _
            | cons z l ih =>
              intro acc
              have h1 := ih (addS acc z)
              have h2 := addS_len (rs := acc) (z := z)
              rw [List.foldl_cons, List.length_cons]
              omega
          have h1 := this ((R.take i).filterMap dirH) []
          have h2 : ((R.take i).filterMap dirH).length ≤ (R.take i).length := List.length_filterMap_le _ _
          have h3 := List.length_take_le i R
          rw [List.length_nil] at h1
          show (dirs (R.take i)).length ≤ _
          unfold dirs
          omega
        refine ⟨_, rfl, b, rfl, .inl ⟨_, .inl hb1⟩, _, rfl, l, _, _, V.str x, rfl, rfl, hsq, atI_nat (j := 0) rfl, Nat.zero_le _, fun q2 hq2 => ?_⟩
        have s2 : Same H1 (upd H1 q2 (.lst [])) := Same.new hq2
        have hp2 : PB1 H (upd H1 q2 (.lst [])) e b (R.take i) (dirs (R.take i)) := hp1.newl hq2
        have hb2 := s2 _ _ hb1
        -- the append, from a heap in which x has its list m
        have app : ∀ (H4 : Hp) (m : Addr), PB1 H H4 e b (R.take i) (addS (dirs (R.take i)) x) → valV (match H4 b with | some (.dK bk) => bk | _ => []) (.inr x) = some (.ref m) → (∃ lvs, H4 m = some (.lst lvs) ∧ lvs.length ≤ 1000) → H4 l = some (.frz od (.lst ((x :: y :: tl).map V.str))) → PairAt H4 vv p →
            ∀ (sl T : Addr) (od2 : Obj), H4 sl = none → (upd H4 sl (.frz od2 (.lst ((y :: tl).map V.str)))) T = none →
            ∃ lvs, H4 m = some (.lst lvs) ∧ (upd (upd H4 sl (.frz od2 (.lst ((y :: tl).map V.str)))) T (.tup [.ref sl, vv])) m = some (.lst lvs) ∧ lvs.length < sizeLine ∧
              PB1 H (upd (upd (upd H4 sl (.frz od2 (.lst ((y :: tl).map V.str)))) T (.tup [.ref sl, vv])) m (.lst (lvs ++ [.ref T]))) e b (R.take (i + 1)) (dirs (R.take (i + 1))) := by
          intro H4 m hp4 hm ⟨lvs, hlm, hlen⟩ hl4 hv4 sl T od2 hsl hT
          have sS : Same H4 (upd H4 sl (.frz od2 (.lst ((y :: tl).map V.str)))) := Same.new hsl
          have sT := Same.new (o := .tup [.ref sl, vv]) hT
          refine ⟨lvs, hlm, sT _ _ (sS _ _ hlm), line_lt (by omega), ?_⟩
          have hp5 := (hp4.newl (o := .frz od2 (.lst ((y :: tl).map V.str))) hsl).newl (o := .tup [.ref sl, vv]) hT
          have nST : T ≠ sl := fun z => by rw [z, upd_same] at hT; cases hT
          rw [htk]
          refine hp5.row ?_ (sT _ _ (sS _ _ hlm)) ⟨T, sl, od2, vv, rfl, upd_same, by rw [upd_ne nST.symm]; exact upd_same, hv4.same (sS.trans sT)⟩
          obtain ⟨_, _, g, hg, _⟩ := hp4
          rw [sT _ _ (sS _ _ hg)]
          rw [hg] at hm
          exact hm
        have e0 : ((x :: y :: tl).map V.str) = .str x :: (y :: tl).map V.str := rfl
        refine ⟨_, .inr x, hb2, rfl, line_lt (by omega), fun v hv => ?_, fun hv => ?_⟩
        · rw [bval] at hv
          by_cases hx : x ∈ dirs (R.take i)
          · rw [if_pos hx] at hv
            obtain rfl := Option.some.inj hv
            have hadd : addS (dirs (R.take i)) x = dirs (R.take i) := by unfold addS; rw [if_pos hx]
            obtain ⟨a1, lvs, a2, a3⟩ := hfs x hx
            have hlv : lvs.length ≤ 1000 := by
              rw [paired_len a3]
              have h1 : (sub (R.take i) x).length ≤ (R.take i).length := List.length_filterMap_le _ _
              have h2 := List.length_take_le i R
              omega
            have hp2' : PB1 H (upd H1 q2 (.lst [])) e b (R.take i) (addS (dirs (R.take i)) x) := by rw [hadd]; exact hp2
            have hl2 := s2 _ _ h2
            refine ⟨_, rfl, .inl ⟨rfl, lvs, SqL.of (s2 _ _ a2)⟩, ?_⟩
            refine ⟨_, rfl, _, rfl, l, _, rfl, .inl (.inr ⟨od, hl2⟩), fun sl hsl => ?_⟩
            rw [e0, cut_tail]
            refine ⟨sl, _, rfl, upd_same, trivial, fun od2 => ?_⟩
            rw [upd_upd]
            refine ⟨_, rfl, (by show 2 ≤ sizeLine; exact line_of (by decide)), fun T hT => ?_⟩
            obtain ⟨lv3, c1, c2, c3, c4⟩ := app _ (f x) hp2' (by rw [hb2]; simp only; rw [bval, if_pos hx]) ⟨lvs, s2 _ _ a2, hlv⟩ hl2 (h3.same s2) sl T od2 hsl hT
            exact ⟨f x, lv3, _, rfl, rfl, c2, c3, ⟨_, _, _, _, rfl⟩, c4⟩
          · rw [if_neg hx] at hv; cases hv
        · have hx : x ∉ dirs (R.take i) := fun z => by rw [bval, if_pos z] at hv; cases hv
          have hq0 : H q2 = none := Same.free hp1.same hq2
          have hp3 : PB1 H (upd (upd H1 q2 (.lst [])) b (.dK (putK ((dirs (R.take i)).map fun s => ((Sum.inr s : Key), V.ref (f s))) (.inr x) (.ref q2)))) e b (R.take i) (addS (dirs (R.take i)) x) :=
            hp2.key hb0 nb hx hq0 upd_same (fun s hs g hg => by
              rw [hb2] at hg
              injection hg with hg
              injection hg with hg
              have hg' := List.map_inj_left.mp hg s hs
              have e3 : f s = g s := by injection hg' with _ hg'; injection hg'
              rw [← e3]
              obtain ⟨_, lvs, a2, _⟩ := hfs s hs
              exact ne_of_none a2 hq2) hb2
          have qb : q2 ≠ b := fun z => by rw [z] at hq2; rw [hq2] at hb1; cases hb1
          have lb : l ≠ b := ne_of h2 hb1 (by intro z; cases z)
          have hm3 : (upd (upd H1 q2 (.lst [])) b (.dK (putK ((dirs (R.take i)).map fun s => ((Sum.inr s : Key), V.ref (f s))) (.inr x) (.ref q2)))) q2 = some (.lst []) := by rw [upd_ne qb]; exact upd_same
          have hl3 : (upd (upd H1 q2 (.lst [])) b (.dK (putK ((dirs (R.take i)).map fun s => ((Sum.inr s : Key), V.ref (f s))) (.inr x) (.ref q2)))) l = some (.frz od (.lst ((x :: y :: tl).map V.str))) := by rw [upd_ne lb]; exact s2 _ _ h2
          have hv3 := PairAt.mut (o := .dK (putK ((dirs (R.take i)).map fun s => ((Sum.inr s : Key), V.ref (f s))) (.inr x) (.ref q2))) (h3.same s2) hb2 (by intro _ z; cases z)
          refine ⟨_, rfl, .inl ⟨rfl, [], SqL.of hm3⟩, ?_⟩
          refine ⟨_, rfl, _, rfl, l, _, rfl, .inl (.inr ⟨od, hl3⟩), fun sl hsl => ?_⟩
          rw [e0, cut_tail]
          refine ⟨sl, _, rfl, upd_same, trivial, fun od2 => ?_⟩
          rw [upd_upd]
          refine ⟨_, rfl, (by show 2 ≤ sizeLine; exact line_of (by decide)), fun T hT => ?_⟩
          obtain ⟨lv3, c1, c2, c3, c4⟩ := app _ q2 hp3 (by rw [upd_same]; simp only; rw [valV_put, if_pos rfl]) ⟨[], hm3, Nat.zero_le _⟩ hl3 hv3 sl T od2 hsl hT
          exact ⟨q2, lv3, _, rfl, rfl, c2, c3, ⟨_, _, _, _, rfl⟩, c4⟩
    rintro σ H1 ⟨⟨x4, x5, x6, x7, rfl⟩, hp1⟩
    rw [paired_len hrows, List.take_length] at hp1
    obtain ⟨hs1, ⟨ekvs, he1, hdr⟩, f, hb1, hfs, hfi⟩ := hp1
    have hnd := hbase.nd
    have hft : tabE [] (files R) = files R := by
      have := tabE_app (files R) [] (by rw [List.nil_append]; exact (List.nodup_append.mp hnd).1)
      simpa using this
    rw [hft] at hdr
    refine ⟨b, _, hb1, trivial, fun od => ?_⟩
    have kde : kd ≠ e := by
      obtain ⟨_, _, _, hk, _⟩ := hst
      exact ne_of_none hk he
    have kdb : kd ≠ b := by
      obtain ⟨_, _, _, hk, _⟩ := hst
      exact ne_of_none hk hb0
    generalize hbk : ((dirs R).map fun s => ((Sum.inr s : Key), V.ref (f s))) = bk at hb1
    have hbkl : bk.length = (dirs R).length := by rw [← hbk, List.length_map]
    have sHl : Same H (upd H1 b (.frz od (.dK bk))) := hs1.mut hb0
    have hel : (upd H1 b (.frz od (.dK bk))) e = some (.dK ekvs) := by rw [upd_ne nb.symm]; exact he1
    have hbl2 : (upd H1 b (.frz od (.dK bk))) b = some (.frz od (.dK bk)) := upd_same
    have hdrl : DR (PairAt (upd H1 b (.frz od (.dK bk)))) ekvs (files R) := hdr.imp fun v y q => PairAt.mut (u := .dK bk) q hb1 (by intro _ z; cases z)
    have hfl : ∀ s ∈ dirs R, ∃ lvs, (upd H1 b (.frz od (.dK bk))) (f s) = some (.lst lvs) ∧ Paired (RowAt (upd H1 b (.frz od (.dK bk)))) lvs (sub R s) := fun s hs => by
      obtain ⟨_, lvs, a2, a3⟩ := hfs s hs
      exact ⟨lvs, by rw [upd_ne (ne_of a2 hb1 (by intro z; cases z))]; exact a2, L2.Paired.mapP a3 fun _ _ q => RowAt.mut (u := .dK bk) q hb1 (by intro _ z; cases z) (by intro _ _ z; cases z)⟩
    have hkl : ∃ k1, (upd H1 b (.frz od (.dK bk))) kd = some (.dK k1) := by
      obtain ⟨_, k1, _, hk, _⟩ := hst
      exact ⟨k1, sHl _ _ hk⟩
    obtain ⟨k1, hkl⟩ := hkl
    generalize upd H1 b (.frz od (.dK bk)) = Hl at sHl hel hbl2 hdrl hfl hkl
    refine ⟨_, rfl, b, od, bk, rfl, hbl2, for_of (n := bk.length) (fun i σ H' => (∃ x4 x5 x6 x7, σ = [some (.ref a), some (.ref rl), some (.ref e), some (.ref b), x4, x5, x6, x7]) ∧ (i = 0 → H' = Hl) ∧ But2 kd e Hl H' ∧ StAt K H' a kd (putAll ks (((dirs R).take i).flatMap fun s => trees (m - 1) (sub R s))) ∧
        ∃ ekvs, H' e = some (.dK ekvs) ∧ DR (PairAt H') ekvs (files R ++ ((dirs R).take i).map fun s => (s, ("dir" : Str), hid (.tree (held (m - 1) (sub R s))))))
      ⟨⟨_, _, _, _, rfl⟩, fun _ => rfl, fun _ _ _ _ q => q, hst.same sHl, ekvs, hel, by rw [List.take_zero, List.map_nil, List.append_nil]; exact hdrl⟩ ?_ ?_ ?_ ?_⟩
    · exact fun i σ H' hi q => ⟨q.2.2.1 _ _ kdb.symm nb hbl2, hi⟩
    · exact fun σ H' q => ⟨q.2.2.1 _ _ kdb.symm nb hbl2, Nat.le_refl _⟩
    · rintro i yv σ H2 H3 hi ⟨⟨x4, x5, x6, x7, rfl⟩, _, b2, st2, ek2, he2, dr2⟩ ⟨T0, kk, v, hkv, rfl, hT0, rfl⟩
      obtain ⟨s, hs, e1⟩ : ∃ s, (dirs R)[i]? = some s ∧ (kk, v) = (.inr s, .ref (f s)) := by
        rw [← hbk, List.getElem?_map] at hkv
        cases c : (dirs R)[i]? with
        | none => rw [c] at hkv; cases hkv
        | some s => rw [c] at hkv; exact ⟨s, rfl, (Option.some.inj hkv).symm⟩
      injection e1 with e1 e2
      subst e1 e2
      have hsm := List.mem_of_getElem? hs
      have hA : ∃ m', m = m' + 1 ∧ ROk m R ∧ (∀ t ∈ trees m R, U t) ∧ ks.length + (trees m R).length ≤ 50000 := by
        rcases hc with ⟨h1, h2, h3, _⟩ | ⟨_, h2, _⟩
        · cases m with
          | zero => rw [h1.2.2] at hsm; cases hsm
          | succ m' => exact ⟨m', rfl, h1, h2, h3⟩
        · rw [h2] at hsm; cases hsm
      obtain ⟨m', rfl, rok, hU, hcnt⟩ := hA
      have sT0 : Same H2 (upd H2 T0 (.tup [kV (.inr s), .ref (f s)])) := Same.new hT0
      refine ⟨T0, _, rfl, SqT.of upd_same, rfl, _, _, rfl, _, _, rfl, rfl, ?_⟩
      refine ⟨_, rfl, _, rfl, ?_⟩
      obtain ⟨lvs, hl1, hl2⟩ := hfl s hsm
      have n1 : ∀ {c : Addr} {o : HO}, Hl c = some o → (∀ k, o ≠ .dK k) → (upd H2 T0 (.tup [kV (.inr s), .ref (f s)])) c = some o := fun hc1 hn => sT0 _ _ (b2 _ _ (ne_of hc1 hkl (hn _)) (ne_of hc1 hel (hn _)) hc1)
      have hsub : ∀ t ∈ ((dirs R).take (i + 1)).flatMap (fun s => trees m' (sub R s)), U t := fun t ht => hU t (by
        obtain ⟨s', hs', ht'⟩ := List.mem_flatMap.mp ht
        exact List.mem_append_left _ (List.mem_flatMap.mpr ⟨s', List.mem_of_mem_take hs', ht'⟩))
      have htk : (dirs R).take (i + 1) = (dirs R).take i ++ [s] := by rw [List.take_add_one, hs]; rfl
      have hfm : ((dirs R).take (i + 1)).flatMap (fun s => trees m' (sub R s)) = ((dirs R).take i).flatMap (fun s => trees m' (sub R s)) ++ trees m' (sub R s) := by rw [htk, List.flatMap_append]; simp
      have hcnt2 : (((dirs R).take (i + 1)).flatMap (fun s => trees m' (sub R s))).length ≤ ((dirs R).flatMap (fun s => trees m' (sub R s))).length := by
        rw [List.length_flatMap, List.length_flatMap]
        have e4 : dirs R = (dirs R).take (i + 1) ++ (dirs R).drop (i + 1) := (List.take_append_drop _ _).symm
        have : ((dirs R).map fun s => (trees m' (sub R s)).length).sum = (((dirs R).take (i + 1)).map fun s => (trees m' (sub R s)).length).sum + (((dirs R).drop (i + 1)).map fun s => (trees m' (sub R s)).length).sum := by
          conv => lhs; rw [e4]
          rw [List.map_append, List.sum_append]
        omega
      have hcnt3 : (trees (m' + 1) R).length = ((dirs R).flatMap (fun s => trees m' (sub R s))).length + 1 := by
        show (_ ++ [_]).length = _
        rw [List.length_append]; rfl
      refine ⟨a, f s, kd, _, sub R s, U, rfl, ⟨st2.same sT0, ⟨lvs, n1 hl1 (by intro _ z; cases z), L2.Paired.mapP hl2 fun v r ⟨q, l, od2, vv, ev, c1, c2, q2, ev2, c3⟩ => ⟨q, l, od2, vv, ev, n1 c1 (by intro _ z; cases z), n1 c2 (by intro _ z; cases z), q2, ev2, n1 c3 (by intro _ z; cases z)⟩⟩, ?_, hinj⟩, .inl ⟨rok.2.2 s hsm, ?_, ?_, fun H4 b4 st4 => ?_⟩⟩
      · exact KsOk.all hok fun t ht => hsub t (by rw [hfm]; exact List.mem_append_left _ ht)
      · exact fun t ht => hsub t (by rw [hfm]; exact List.mem_append_right _ ht)
      · have h1 := putAll_len (((dirs R).take i).flatMap fun s => trees m' (sub R s)) ks
        rw [hfm, List.length_append] at hcnt2
        show (putAll ks (((dirs R).take i).flatMap fun s => trees m' (sub R s))).length + _ ≤ _
        omega
      refine ⟨(by show 2 ≤ sizeLine; exact line_of (by decide)), fun T hT => ?_⟩
      have sT : Same H4 (upd H4 T (.tup [.str "dir", .str (hid (.tree (held m' (sub R s))))])) := Same.new hT
      have he4 : (upd H4 T (.tup [.str "dir", .str (hid (.tree (held m' (sub R s))))])) e = some (.dK ek2) := sT _ _ (b4 _ _ kde.symm (sT0 _ _ he2))
      obtain ⟨k2, hk2⟩ : ∃ k2, (upd H2 T0 (.tup [kV (.inr s), .ref (f s)])) kd = some (.dK k2) := by
        obtain ⟨_, k2, _, h2, _⟩ := st2.same sT0
        exact ⟨k2, h2⟩
      refine ⟨_, rfl, _, rfl, e, _, rfl, .inl ⟨ek2, .inr s, he4, rfl, ?_, rfl⟩, ?_⟩
      · rw [dr2.len, List.length_append, List.length_map]
        have h1 := List.length_take_le i (dirs R)
        have h2 := hbase.len
        exact line_lt (by omega)
      refine ⟨⟨_, _, _, _, rfl⟩, fun z => by omega, fun c o n3 n4 hc => ?_, ?_, _, upd_same, ?_⟩
      · rw [upd_ne n4]
        exact sT _ _ (b4 _ _ n3 (sT0 _ _ (b2 _ _ n3 n4 hc)))
      · have h5 : StAt K (upd H4 T (.tup [.str "dir", .str (hid (.tree (held m' (sub R s))))])) a kd (putAll ks (((dirs R).take (i + 1)).flatMap fun s => trees m' (sub R s))) := by
          rw [hfm, putAll_app]
          exact st4.same sT
        exact h5.mut he4 kde.symm (by intro _ z; cases z) (by intro _ _ _ z; cases z)
      · have hnone : valS (files R ++ ((dirs R).take i).map fun s => (s, ("dir" : Str), hid (.tree (held m' (sub R s))))) s = none := by
          rw [valS_none, List.map_append, List.map_map]
          intro hm
          rcases List.mem_append.mp hm with hm | hm
          · exact (List.nodup_append.mp hnd).2.2 _ hm _ hsm rfl
          · have hm' : s ∈ (dirs R).take i := by
              obtain ⟨s', hs', e5⟩ := List.mem_map.mp hm
              exact e5 ▸ hs'
            obtain ⟨j, hj⟩ := List.getElem?_of_mem hm'
            have hjl : j < i := by
              have := (List.getElem?_eq_some_iff.mp hj).1
              have := List.length_take_le i (dirs R)
              omega
            rw [List.getElem?_take_of_lt hjl] at hj
            obtain ⟨p1, p2⟩ := List.getElem?_eq_some_iff.mp hs
            obtain ⟨p3, p4⟩ := List.getElem?_eq_some_iff.mp hj
            exact List.pairwise_iff_getElem.mp (List.nodup_iff_pairwise_ne.mp (dirs_nodup R)) j i p3 p1 hjl (p4.trans p2.symm)
        have e6 : (files R ++ ((dirs R).take (i + 1)).map fun s => (s, ("dir" : Str), hid (.tree (held m' (sub R s))))) = putS (files R ++ ((dirs R).take i).map fun s => (s, ("dir" : Str), hid (.tree (held m' (sub R s))))) s ("dir", hid (.tree (held m' (sub R s)))) := by
          rw [putS_new hnone, htk, List.map_append, List.append_assoc]
          rfl
        show DR _ _ (files R ++ ((dirs R).take (i + 1)).map fun s => (s, ("dir" : Str), hid (.tree (held m' (sub R s)))))
        rw [e6]
        refine DR.put (DR.imp dr2 fun v y q => ?_) (PairAt.mut (u := .dK ek2) ⟨T, rfl, upd_same⟩ he4 (by intro _ z; cases z))
        exact PairAt.mut (u := .dK ek2) (((q.same sT0).but hk2 b4).same sT) he4 (by intro _ z; cases z)
    rintro σ H2 ⟨⟨x4, x5, x6, x7, rfl⟩, hz, b2, st2, ek2, he2, dr2⟩
    have hb2 := b2 _ _ kdb.symm nb hbl2
    refine ⟨hb2, ?_⟩
    rw [hbkl, List.take_length] at st2 dr2
    have stU := st2.mut (o := .dK bk) hb2 kdb.symm (by intro _ z; cases z) (by intro _ _ _ z; cases z)
    have heu : (upd H2 b (.dK bk)) e = some (.dK ek2) := by rw [upd_ne nb.symm]; exact he2
    have drU : DR (PairAt (upd H2 b (.dK bk))) ek2 (entL (m - 1) R) := DR.imp dr2 fun v y q => PairAt.mut (u := .frz od (.dK bk)) q hb2 (by intro _ z; cases z)
    have bU : ∀ c o, c ≠ kd → H c = some o → (upd H2 b (.dK bk)) c = some o := fun c o n3 hc3 => by
      rw [upd_ne (ne_of_none hc3 hb0)]
      exact b2 _ _ n3 (ne_of_none hc3 he) (sHl _ _ hc3)
    have zU : dirs R = [] → Same H (upd H2 b (.dK bk)) := fun hd => by
      have : bk.length = 0 := by rw [hbkl, hd]; rfl
      rw [hz this]
      exact sHl.mut hb0
    generalize upd H2 b (.dK bk) = Hu at stU heu drU bU zU
    obtain ⟨dxS, kvs, haS, hkS, hdS⟩ := stU
    refine ⟨_, rfl, a, dxS, stF kd, rfl, haS, rfl, ?_⟩
    refine ⟨_, rfl, fun x dx hx hdx hne => ?_⟩
    have s3 : Same Hu (upd (upd Hu dx (.own x)) x (.ins (ca K "Tree") dx [])) := (Same.new hdx).trans (Same.new (by rw [upd_ne hne.symm]; exact hx))
    refine ⟨x, e, dx, ek2, entL (m - 1) R, rfl, upd_same, s3 _ _ heu, drU.imp fun v y q => q.same s3, by rw [entL_keys]; exact hnd, entL_ok hbase, by rw [entL_len]; exact hbase.len, fun h30 H' dd sD => ?_, fun h30 H4 t rs s4 hx4 ht4 hp4 => ⟨rfl, ?_⟩⟩
    · rcases hc with ⟨h1, _⟩ | ⟨_, h2, _, h4⟩
      · have := h1.few
        rw [entL_len] at h30
        omega
      · exact h4 H' dd (((zU h2).trans s3).trans sD)
    · rcases hc with ⟨h1, hU, hcnt, kQ⟩ | ⟨_, h2, h3, _⟩
      · have sU4 : Same Hu H4 := fun c o hc4 => s4 c o (ne_of_none hc4 hx) (s3 _ _ hc4)
        have st4 : StAt K H4 a kd (putAll ks ((dirs R).flatMap fun s => trees (m - 1) (sub R s))) := StAt.same ⟨dxS, kvs, haS, hkS, hdS⟩ sU4
        have hte := trees_eq h1
        have hUt : U (.tree (held m R)) := hU _ (by rw [hte]; exact List.mem_append_right _ List.mem_cons_self)
        have hok2 : KsOk U (putAll ks ((dirs R).flatMap fun s => trees (m - 1) (sub R s))) := KsOk.all hok fun t ht => hU t (by rw [hte]; exact List.mem_append_left _ ht)
        have hlen2 := putAll_len ((dirs R).flatMap fun s => trees (m - 1) (sub R s)) ks
        refine ⟨a, x, kd, _, .tree (held m R), rfl, st4, ⟨dx, t, rs, hx4, ht4, by rw [held_eq h1]; exact hp4⟩, held_ok h1, hok2.val hinj hUt, ?_, fun H5 b5 st5 => ?_⟩
        · rw [hte, List.length_append] at hcnt
          omega
        · refine kQ H5 (fun c o n3 hc3 => b5 _ _ n3 (sU4 _ _ (bU c o n3 hc3))) ?_
          rw [hte, putAll_app]
          exact st5
      · rw [entL_len, h2] at h30
        simp at h30
        omega
end
end FK

/-! Forkhaul k08: put_below for all depths, put_files. -/
namespace FK
open PySem PySem.Spec PyProof.Rows L2 TL
open PySem.W (Frag)
section
variable {P : Program} {w : World} {K : Frag} {mg : Str → Option Value} {base : Heap}
theorem ok_pb (F : GF K mg "put_below" sPB) (GT : CalF P w K mg base (L2.CX P w) 4 (mAt K (ca K "Tree") "__init__") ["self", "entries"] (spTInit K)) (GP : CalF P w K mg base CX0 6 (mAt K (ca K "Store") "put") ["self", "thing"] (spSPut K)) (mP : Meth K (ca K "Store") "put" (mAt K (ca K "Store") "put")) (T : Kit K mg) :
    ∀ n, Cal P w K mg base (L2.CX P w) (6 + n) "put_below" ["store", "rows"] (spPB K n)
  | 0 => cal_false F (fun _ _ _ _ _ _ us hl => match us, hl with | [_, _], _ => rfl)
  | n + 1 => pb_step (Nat.le_add_right 6 n) F (ok_pb F GT GP mP T n) GT GP mP T
/-! ### put_files -/
/-- the rows of files: sorted -/
def rowsOf (fs : List (Str × (Str × Str))) : List Row := (srt (fs.map (·.1))).filterMap fun z => (valS fs z).map fun p => (Txt.split z "/", p)
/-- the dict at d holds the files fs -/
def FdAt (H : Hp) (d : Addr) (fs : List (Str × (Str × Str))) : Prop := ∃ kvs, H d = some (.dK kvs) ∧ DR (PairAt H) kvs fs
structure FilesOk (fs : List (Str × (Str × Str))) : Prop where
  nd : (fs.map (·.1)).Nodup
  len : fs.length ≤ 90
  path : ∀ f ∈ fs, isPathS f.1 = true ∧ f.1.length ≤ 4000 ∧ txOk f.1 = true
  val : ∀ f ∈ fs, valueOk f.2 = true
  clash : ¬ Clash (fs.map (·.1))
theorem FilesOk.chk {fs : List (Str × (Str × Str))} (h : FilesOk fs) {H : Hp} {d : Addr} {kvs : List (Key × V)} (hd : H d = some (.dK kvs)) (dr : DR (PairAt H) kvs fs) : ChkA K H d kvs (fs.map fun f => some f.2) ∧ pathsOk kvs ∧ valsOk (fs.map fun f => some f.2) = true := by
  have hk := dr.keys
  have hz := keysZ_map hk
  refine ⟨⟨hd, by rw [dr.len]; have := h.len; omega, fun p hp z e => ?_, ?_⟩, ⟨?_, by rw [hz]; exact h.clash⟩, ?_⟩
  · have : z ∈ fs.map (·.1) := by
      have h1 : p.1 ∈ kvs.map (·.1) := List.mem_map_of_mem hp
      rw [hk, e] at h1
      obtain ⟨y, hy, e2⟩ := List.mem_map.mp h1
      cases e2
      exact hy
    obtain ⟨f, hf, rfl⟩ := List.mem_map.mp this
    exact (h.path f hf).2
  · have : ∀ {kvs : List (Key × V)} {fs : List (Str × (Str × Str))}, (∀ f ∈ fs, valueOk f.2 = true) → DR (PairAt H) kvs fs → Paired (fun (p : Key × V) o => ValC K H p.2 o) kvs (fs.map fun f => some f.2) := by
      intro kvs fs hv dr
      induction dr with
      | nil => exact .nil
      | cons q r ih =>
        rename_i p f kv2 fs2
        refine .cons ⟨q.2, ?_⟩ (ih fun g hg => hv g (List.mem_cons_of_mem _ hg))
        have := idLen (value_kind (hv f List.mem_cons_self)).2
        omega
    exact this h.val dr
  · rw [List.all_eq_true]
    intro p hp
    have h1 : p.1 ∈ kvs.map (·.1) := List.mem_map_of_mem hp
    rw [hk] at h1
    obtain ⟨y, hy, e2⟩ := List.mem_map.mp h1
    obtain ⟨f, hf, rfl⟩ := List.mem_map.mp hy
    rw [← e2]
    exact (h.path f hf).1
  · unfold valsOk
    rw [List.all_map, List.all_eq_true]
    exact fun f hf => h.val f hf
/-- what put_files is handed, and what it promises -/
def spPutF (K : Frag) (n : Nat) : Sp := fun vs H Q E => ∃ (a kd : Addr) (ks : List (Str × Th)) (v : V), vs = [.ref a, v] ∧ StAt K H a kd ks ∧ ks.length ≤ 20000 ∧
  ((∃ d fs U, v = .ref d ∧ FdAt H d fs ∧ FilesOk fs ∧ KsOk U ks ∧ Inj U ∧
      ((ROk n (rowsOf fs) ∧ (∀ t ∈ trees n (rowsOf fs), U t) ∧ (trees n (rowsOf fs)).length ≤ 20000 ∧ ∀ H' kd', (∀ b o, b ≠ a → H b = some o → H' b = some o) → H kd' = none → StAt K H' a kd' (putAll ks (trees n (rowsOf fs))) → Q (.str (hid (.tree (held n (rowsOf fs))))) H') ∨
       (RBase (rowsOf fs) ∧ dirs (rowsOf fs) = [] ∧ 30 < (files (rowsOf fs)).length ∧ ∀ H' dd, Same H H' → E (.ref (ca K "BadName")) (some dd) H'))) ∨
   (∃ d kvs os, v = .ref d ∧ ChkA K H d kvs os ∧ (¬ pathsOk kvs ∨ valsOk os = false) ∧ (¬ pathsOk kvs → ∀ H' dd, Same H H' → E (.ref (ca K "BadPath")) (some dd) H') ∧ (pathsOk kvs → ∀ H' dd, Same H H' → E (.ref (ca K "BadName")) (some dd) H')) ∨
   (∃ t, TyX K H v (.type t) ∧ kitB t "dict" = some false ∧ ∀ H' dd, Same H H' → E (.ref (ca K "BadPath")) (some dd) H') ∨
   (∃ d ks os, v = .ref d ∧ H d = some (RawO d ks) ∧ ks.length ≤ 100 ∧ Paired (KeyC H) ks os ∧ (os.all fun o => o.elim false isPathS) = false ∧ ∀ H' dd, Same H H' → E (.ref (ca K "BadPath")) (some dd) H'))
theorem fm_get {α β : Type} {l : List (Str × α)} (g : Str → α → β) : ∀ zs : List Str, (∀ z ∈ zs, z ∈ l.map (·.1)) → (zs.filterMap fun n => (valS l n).map fun p => g n p).length = zs.length ∧ ∀ (i : Nat) (z : Str), zs[i]? = some z → ∃ p, valS l z = some p ∧ (zs.filterMap fun n => (valS l n).map fun p => g n p)[i]? = some (g z p) := by
  intro zs
  induction zs with
  | nil => exact fun _ => ⟨rfl, fun i z h => by simp at h⟩
  | cons y r ih =>
    intro hm
    obtain ⟨h1, h2⟩ := ih fun z hz => hm z (List.mem_cons_of_mem _ hz)
    have : ∃ p, valS l y = some p := by
      cases e : valS l y with
      | none => exact absurd (hm y List.mem_cons_self) (valS_none.mp e)
      | some p => exact ⟨p, rfl⟩
    obtain ⟨p, hp⟩ := this
    have e : (List.filterMap (fun n => (valS l n).map fun p => g n p) (y :: r)) = g y p :: List.filterMap (fun n => (valS l n).map fun p => g n p) r := by
      rw [List.filterMap_cons, hp]; rfl
    rw [e]
    refine ⟨by rw [List.length_cons, List.length_cons, h1], fun i z hi => ?_⟩
    cases i with
    | zero =>
      obtain rfl : y = z := by simpa using hi
      exact ⟨p, hp, rfl⟩
    | succ i => exact h2 i z (by simpa using hi)
theorem rows_get (fs : List (Str × (Str × Str))) : (rowsOf fs).length = fs.length ∧ ∀ (i : Nat) (z : Str), (srt (fs.map (·.1)))[i]? = some z → ∃ p, valS fs z = some p ∧ (rowsOf fs)[i]? = some (Txt.split z "/", p) := by
  obtain ⟨h1, h2⟩ := fm_get (l := fs) (fun z p => (Txt.split z "/", p)) (srt (fs.map (·.1))) (fun z hz => srt_mem.mp hz)
  exact ⟨by unfold rowsOf; rw [h1, srt_len, List.length_map], h2⟩
theorem FdAt.same {H H' : Hp} {d : Addr} {fs : List (Str × (Str × Str))} (h : FdAt H d fs) (s : Same H H') : FdAt H' d fs := by
  obtain ⟨kvs, h1, h2⟩ := h
  exact ⟨kvs, s _ _ h1, h2.imp fun v y q => q.same s⟩
theorem ThAt.mutS {K : Frag} {H : Hp} {a d C dx kd : Addr} {o : HO} (hd : H d = some (.ins C dx (stF kd))) : ∀ {t : Th}, ThAt K H a t → ThAt K (upd H d o) a t
  | .blob, ⟨dx, h⟩ => ⟨dx, by rw [upd_ne (ne_of h hd (by intro z; injection z with _ _ z; exact absurd (congrArg List.length z) (by show ¬ 1 = 2; decide)))]; exact h⟩
  | .tree es, ⟨dx, t, rs, a1, a2, a3⟩ => ⟨dx, t, rs, by rw [upd_ne (ne_of a1 hd (by intro z; injection z with _ _ z; exact absurd (congrArg List.length z) (by show ¬ 1 = 2; decide)))]; exact a1, by rw [upd_ne (ne_of a2 hd (by intro z; cases z))]; exact a2, L2.Paired.mapP a3 fun _ _ q => EntAt.mut q hd (by intro _ z; cases z)⟩
abbrev nPutF : List Str := ["self", "files", "work", "name", "path"]
theorem scPutF : FnScope nPutF ["self", "files"] (defScope sSPutF) := ⟨rfl, rfl, rfl, by decide +kernel, rfl, by decide +kernel, by decide +kernel⟩
theorem ok_putf (n : Nat) (F : MF K "put_files" "Store.put_files" sSPutF (mAt K (ca K "Store") "put_files")) (GK : Cal P w K mg base (L2.CX P w) 4 "check_files" ["files"] (spChk K)) (GC : CalF P w K mg base CX0 3 (mAt K (ca K "Store") "copied") ["self"] (spSCop K)) (mC : Meth K (ca K "Store") "copied" (mAt K (ca K "Store") "copied"))
    (GB : Cal P w K mg base (L2.CX P w) (7 + n) "put_below" ["store", "rows"] (spPB K (n + 1))) (T : Kit K mg) : CalF P w K mg base (L2.CX P w) (8 + n) (mAt K (ca K "Store") "put_files") ["self", "files"] (spPutF K n) := by
  have e8 : 8 + n = (7 + n) + 1 := by omega
  rw [e8]
  refine calFX F scPutF (fun _ _ _ _ _ _ us hl => match us, hl with | [_, _], _ => rfl) (fun vs H Q E h => ?_) (fun cdv A outer s H vs Q E hr h => ?_)
  · obtain ⟨a, kd, ks, v, rfl, _⟩ := h
    rfl
  · obtain ⟨a, kd, ks, v, rfl, hst, hkl, hc⟩ := h
    have B := T.fr
    have h4 : 4 ≤ 7 + n := by omega
    refine ⟨_, pss_cons (ps_expr (pcal (E := E) (GK.mono h4) hr (by rfl) (passX (takes_of rfl rfl rfl rfl)) (pa_cons (pv 1) pa_nil)))
      (pss_cons (ps_set (i := 2) scPutF.nd rfl (Or.inl rfl) (pmeth0 (E := E0) (GC.mono (by omega : 3 ≤ 7 + n)) (pv 0) T.cS mC hr pass0))
      (pss_cons (ps_set (i := 3) scPutF.nd rfl (Or.inl rfl) (pcal (E := E) GB hr (by rfl) (passX (takes_of rfl rfl rfl rfl)) (pa_cons (pv 2) (pa_cons (pe_lc (own := [("path", 4)]) (g := gName 4) (tt := tYes) (te := tTup (tCons (tFrz (tM1 (fun x xs H Q => ∃ a b, x = .str a ∧ xs = [.str b] ∧ (b.length == 0) = false ∧ a.length + 2 ≤ sizeLine ∧ rNewStrs (Txt.split a b) H Q) (tVar 4) (tC (.str "/")))) (tCons (tDGet (tVar 1) (tVar 4)) tNil))) rfl scPutF.nd
          (pi_list (pe_callB (call_sortedDA rfl) (by rfl) B.sorted (by decide +kernel) (pa_cons (pv 1) pa_nil))) (blkOk_by (N := nPutF) (sc := defScope sSPutF) (by decide +kernel)) (fun _ _ _ _ _ => pg_name (i := 4) scPutF.nd rfl (Or.inl rfl)) (fun _ _ _ _ _ => pts_nil)
          (fun _ _ _ _ _ => pe_tup (pa_cons (pe_frz (pe_split (pv 4) pe_str)) (pa_cons (pe_dget (hu_of hr) (pv 1) (pv 4) (by intro _ _; rfl)) pa_nil)))) pa_nil))))
      (pss_cons (ps_fld (pv 0) (pe_fld (pv 2) (by rfl)) (by rfl))
      (pss_one (ps_ret (pv 3)))))), ?_⟩
    obtain ⟨dxS, kvS, haS, hkS, hdS⟩ := hst
    rcases hc with ⟨d, fs, U, rfl, hfd, hfo, hok, hinj, hpb⟩ | ⟨d, kvs, os, rfl, hA, hbad, kP, kN⟩ | ⟨t, ty, e, kP⟩ | ⟨d, rk, os, rfl, h1, h2, h3, h4, kP⟩
    rotate_left
    · refine ⟨_, rfl, _, rfl, .inl ⟨d, kvs, os, rfl, hA, kP, fun q _ => kN q, fun q1 q2 => ?_⟩⟩
      rcases hbad with z | z
      · exact absurd q1 z
      · rw [z] at q2; cases q2
    · exact ⟨_, rfl, _, rfl, .inr (.inl ⟨t, ty, e, kP⟩)⟩
    · exact ⟨_, rfl, _, rfl, .inr (.inr ⟨d, rk, os, rfl, h1, h2, h3, h4, kP⟩)⟩
    obtain ⟨kvs, hd, hdr⟩ := hfd
    obtain ⟨c1, c2, c3⟩ := hfo.chk hd hdr
    refine ⟨_, rfl, _, rfl, .inl ⟨d, kvs, _, rfl, c1, fun q => absurd c2 q, (fun _ q => (by rw [c3] at q; cases q)), fun _ _ H1 s1 => ?_⟩⟩
    have st1 : StAt K H1 a kd ks := StAt.same ⟨dxS, kvS, haS, hkS, hdS⟩ s1
    refine ⟨_, rfl, a, dxS, stF kd, rfl, s1 _ _ haS, rfl, a, kd, ks, rfl, st1, fun H2 b kd' s2 hb0 hkd0 nbk st2 => ?_⟩
    have s12 := s1.trans s2
    have hdr2 : DR (PairAt H2) kvs fs := hdr.imp fun v y q => q.same s12
    have hl61 := hfo.len
    refine ⟨_, rfl, _, rfl, d, kvs, fs.map (·.1), rfl, .inl (s12 _ _ hd), hdr.keys, by rw [List.length_map]; omega, fun ys p hperm hsort hp => ?_⟩
    obtain rfl := srt_unique hperm hsort
    obtain ⟨rg1, rg2⟩ := rows_get fs
    have sp : Same H2 (upd H2 p (.lst ((srt (fs.map (·.1))).map V.str))) := Same.new hp
    refine ⟨p, rfl, ⟨_, SqL.of upd_same⟩, fun D hD => lc_list (K := K) (a := p) (xs := (srt (fs.map (·.1))).map V.str) (fun i H' => Same (upd H2 p (.lst ((srt (fs.map (·.1))).map V.str))) H' ∧ ∃ rs, H' D = some (.lst rs) ∧ Paired (RowAt H') rs ((rowsOf fs).take i))
      ⟨Same.new hD, [], upd_same, .nil⟩ (fun i H' _ q => q.1.seq (SqL.of upd_same)) ?_ ?_⟩
    · rintro i y H3 hy ⟨s3, rs, l3, p3⟩
      obtain ⟨z, hz, rfl⟩ : ∃ z, (srt (fs.map (·.1)))[i]? = some z ∧ y = V.str z := by
        rw [List.getElem?_map] at hy
        cases e : (srt (fs.map (·.1)))[i]? with
        | none => rw [e] at hy; cases hy
        | some z => rw [e] at hy; exact ⟨z, rfl, (Option.some.inj hy).symm⟩
      obtain ⟨pr, hpr, hrow⟩ := rg2 i z hz
      have hzf : (z, pr) ∈ fs := valS_some hpr
      have hzl := (hfo.path _ hzf).2.1
      have s23 := sp.trans s3
      obtain ⟨v, hv, hpa⟩ := hdr2.val_some hpr
      refine ⟨rfl, _, rfl, ⟨_, rfl⟩, _, _, rfl, rfl, (by decide +kernel), Nat.le_trans (Nat.add_le_add_right hzl 2) (by decide), fun q hq => ?_⟩
      refine ⟨q, _, rfl, upd_same, trivial, fun od => ?_⟩
      rw [upd_upd]
      have sq : Same H3 (upd H3 q (.frz od (.lst ((Txt.split z "/").map V.str)))) := Same.new hq
      refine ⟨_, rfl, _, rfl, d, v, rfl, .inl ⟨kvs, .inr z, .inl (sq _ _ (s23 _ _ (s12 _ _ hd))), rfl, hv.symm⟩, (by show 2 ≤ sizeLine; exact line_of (by decide)), fun T0 hT => ?_⟩
      have sT : Same (upd H3 q (.frz od (.lst ((Txt.split z "/").map V.str)))) (upd (upd H3 q (.frz od (.lst ((Txt.split z "/").map V.str)))) T0 (.tup [.ref q, v])) := Same.new hT
      have sqT := sq.trans sT
      have l4 := sqT _ _ l3
      refine ⟨rs, l4, ?_, (s3.trans sqT).mut hD, _, upd_same, ?_⟩
      · rw [paired_len p3]
        exact line_lt (Nat.le_trans (List.length_take_le' _ _) (by omega))
      · rw [List.take_add_one, hrow]
        have q1 : RowAt (upd (upd H3 q (.frz od (.lst ((Txt.split z "/").map V.str)))) T0 (.tup [.ref q, v])) (.ref T0) (Txt.split z "/", pr) := ⟨T0, q, od, v, rfl, upd_same, sT _ _ upd_same, (hpa.same s23).same sqT⟩
        exact paired_snoc (RowAt.mut (u := .lst rs) q1 l4 (by intro _ z; cases z) (by intro _ _ z; cases z)) (L2.Paired.mapP p3 fun a b q => RowAt.mut (u := .lst rs) (RowAt.same sqT q) l4 (by intro _ z; cases z) (by intro _ _ z; cases z))
    rintro H3 ⟨s3, rs, l3, p3⟩
    have e9 : (rowsOf fs).take ((srt (fs.map (·.1))).map V.str).length = rowsOf fs := by
      rw [List.length_map, srt_len, List.length_map]
      exact List.take_of_length_le (by omega)
    rw [e9] at p3
    have s23 := sp.trans s3
    have st3 := st2.same s23
    have sH3 := s12.trans s23
    refine ⟨b, D, kd', ks, rowsOf fs, U, rfl, ⟨st3, ⟨rs, l3, p3⟩, hok, hinj⟩, ?_⟩
    rcases hpb with ⟨rok, hU, hcnt, kQ⟩ | ⟨h6, h7, h8, kE⟩
    · refine .inl ⟨rok, hU, by omega, fun H5 b5 st5 => ?_⟩
      obtain ⟨dxB, kvB, hb5, hk5, hd5⟩ := st5
      have nak : a ≠ kd' := ne_of_none (s1 _ _ haS) hkd0
      have ha5 : H5 a = some (.ins (ca K "Store") dxS (stF kd)) := b5 _ _ nak (sH3 _ _ haS)
      refine ⟨_, rfl, b, _, dxB, _, .ref kd', rfl, hb5, T.cS, T.nS2, rfl, _, rfl, a, _, dxS, stF kd, rfl, ha5, T.cS, T.nS2, (show 2 < 1000 by decide), _, rfl, ?_⟩
      refine kQ _ kd' (fun c o n3 hc3 => ?_) (Same.free s1 hkd0) ⟨dxS, kvB, upd_same, by rw [upd_ne nak.symm]; exact hk5, hd5.imp fun v t ⟨c, e, q⟩ => ⟨c, e, ThAt.mutS ha5 q⟩⟩
      rw [upd_ne n3]
      exact b5 _ _ (ne_of_none (s1 _ _ hc3) hkd0) (sH3 _ _ hc3)
    · exact .inr ⟨h6, h7, h8, fun H' dd sD => kE H' dd (sH3.trans sD)⟩
end
end FK

/-! Forkhaul k08: in, [] by own methods; min of texts. -/
namespace L2
open PySem PySem.Spec PyProof.Rows
section
variable {X : Cx} {CX : CXT} {n : Nat} {C f : Addr} {ps : List Str} {sp : Sp} {E : XK}
theorem run_atV {A : Around} {pins : List (Addr × Obj)} {σ : St} {H : Hp} {s : Shared} {Q : VK} {fd : FuncData} {vs : List V} {us : List Value} (F : FnOk X.prog X.w X.K X.mg X.base CX n f fd ps sp) (hb : Binds X.K fd ps []) (hx : Passes CX X E) (hr : Room n A) (hfr : A.frames = X.A.frames)
    (I : Inv X pins σ H s) (r : Vals vs us) (h : sp vs H Q E) : wpAny (model X.prog X.w) A (call (.ref f) us) (EP X pins σ Q) X.xe s := by
  have e0 : Env0 X.prog X.w X.K X.mg X.base A X.stack s H := by
    have e := I.env0
    exact ⟨by rw [hfr]; exact e.frames, e.mod, e.bs, e.bsz, e.funs, e.frf, e.hok, e.bare⟩
  have hl := F.len _ _ _ _ h
  have hu : us.length = ps.length := by rw [← r.length]; exact hl
  refine wpAny_call (codeAny_mono (F.run A X.stack s H ⟨us, []⟩ us vs _ E hr e0 (by
    have := hb s us I.kIn (by simpa using hu)
    simpa using this) r h) fun r s' hq => ?_)
  cases r with
  | error e => exact hx pins σ H s e s' I hq
  | ok fl =>
    cases fl with
    | ret w => exact I.after hq
    | next => exact False.elim hq
    | brk => exact False.elim hq
    | cont => exact False.elim hq
/-- x in o, x not in o: o an instance of C, C's own __contains__ the def at f -/
def rInOwn (C : Addr) (sp : Sp) (E : XK) (neg : Bool) : R2 := fun x y H Q => ∃ a dx fs, y = .ref a ∧ H a = some (.ins C dx fs) ∧ sp [.ref a, x] H (fun v H' => ∃ k, v = .bl k ∧ Q (.bl (if neg then !k else k)) H') E
theorem op_inOwn {fd : FuncData} (F : FnOk X.prog X.w X.K X.mg X.base CX n f fd ps sp) (hb : Binds X.K fd ps []) (hx : Passes CX X E) (hr : Room n X.A) (hs : PySem.W.findIn X.K (.ref C) "__contains__" = some (some (.ref f))) (hf : PySem.W.isFn X.K (.ref f) = true) :
    OpR X (compareOp .In) (rInOwn C sp E false) := by
  intro pins s σ H x y v u Q I rx ry q
  obtain ⟨a, dx, fs, rfl, ha, hq⟩ := q
  cases ry
  obtain ⟨mA, J, _⟩ := ins_get I.hok ha
  obtain ⟨od, J, _⟩ := J.look
  obtain ⟨m, hF⟩ := I.fr
  refine PySem.W.in_K hF I.ok.mod.kin J hs hf ?_
  refine wpAny_mono (run_atV (vs := [.ref a, x]) F hb hx hr rfl I (.cons rfl (.cons rx .nil)) hq) (fun v s' z => ?_) fun _ _ e => e
  obtain ⟨z, H', I', rz, k, rfl, qk⟩ := z
  obtain rfl : v = Value.bool k := rz
  exact wpAny_truthy_bool ⟨.bl k, H', I', rfl, qk⟩
theorem op_notInOwn {fd : FuncData} (F : FnOk X.prog X.w X.K X.mg X.base CX n f fd ps sp) (hb : Binds X.K fd ps []) (hx : Passes CX X E) (hr : Room n X.A) (hs : PySem.W.findIn X.K (.ref C) "__contains__" = some (some (.ref f))) (hf : PySem.W.isFn X.K (.ref f) = true) :
    OpR X (compareOp .NotIn) (rInOwn C sp E true) := by
  intro pins s σ H x y v u Q I rx ry q
  obtain ⟨a, dx, fs, rfl, ha, hq⟩ := q
  cases ry
  obtain ⟨mA, J, _⟩ := ins_get I.hok ha
  obtain ⟨od, J, _⟩ := J.look
  obtain ⟨m, hF⟩ := I.fr
  refine PySem.W.notIn_K hF I.ok.mod.kin J hs hf ?_
  refine wpAny_mono (run_atV (vs := [.ref a, x]) F hb hx hr rfl I (.cons rfl (.cons rx .nil)) hq) (fun v s' z => ?_) fun _ _ e => e
  obtain ⟨z, H', I', rz, k, rfl, qk⟩ := z
  obtain rfl : v = Value.bool k := rz
  exact wpAny_truthy_bool ⟨.bl (!k), H', I', rfl, qk⟩
/-- o[x], C's own __getitem__ the def at f -/
def rIxOwn (C : Addr) (sp : Sp) (E : XK) : R2 := fun x y H Q => ∃ a dx fs, x = .ref a ∧ H a = some (.ins C dx fs) ∧ sp [.ref a, y] H Q E
theorem pe_ixOwn {fd : FuncData} {a b : Expr} {ta tb : TE} {pos : Pos} (F : FnOk X.prog X.w X.K X.mg X.base CX n f fd ps sp) (hb : Binds X.K fd ps []) (hx : Passes CX X E) (hr : Room (n + 1) X.A) (hs : PySem.W.findIn X.K (.ref C) "__getitem__" = some (some (.ref f))) (hf : PySem.W.isFn X.K (.ref f) = true) (hfn : PySem.W.fnIn X.K f = true)
    (ha : PE X a ta) (hbb : PE X b tb) (hsl : ∀ (x : Addr) (i : Value), subscripted b true (.ref x) i = runValue (.builtin "lifetime.subscript" ⟨[.ref x, i], []⟩) := by intro _ _; with_unfolding_all rfl) : PE X (.Subscript a b pos) (tOp (rIxOwn C sp E) ta tb) := by
  refine ⟨fun pins s σ H Q I h => ?_⟩
  refine Subscript_ (binT ha hbb I h fun v u s2 x y H2 I2 rx ry q => ?_)
  obtain ⟨c, dx, fs, rfl, hc, hq⟩ := q
  cases rx
  obtain ⟨mA, J, _⟩ := ins_get I2.hok hc
  obtain ⟨od, J, _⟩ := J.look
  obtain ⟨m, hF⟩ := I2.fr
  exact PySem.W.sub_K hF I2.ok.mod.kin J hs hfn hf (run_atV (vs := [.ref c, y]) F hb hx hr.in1 rfl I2 (.cons rfl (.cons ry .nil)) hq) (hsl _ _)
/-- min of texts, the first one the least -/
def rMinS (K : PySem.W.Frag) : List V → Hp → VK → Prop := fun vs H Q => ∃ (a : Addr) (x : Str) (xs : List Str), vs = [.ref a] ∧ SqL K H a ((x :: xs).map V.str) ∧ (∀ y ∈ xs, FK.leS x y = true) ∧ Q (.str x) H
theorem cr_minS {k : Nat} (hc : X.calm = true) (hr : Room k X.A) : CallR X (.builtin "min") (rMinS X.K) := by
  intro pins s σ H vs us Q I r h
  obtain ⟨a, x, xs, rfl, hs, hle, q⟩ := h
  obtain ⟨its, rv, hl, _⟩ := I.list hs
  rw [Vals.ref1 r]
  have hd : DpAll X.K H ((x :: xs).map V.str) ((x :: xs).map PyData.str) := FK.dp_strs _
  obtain ⟨as, hR⟩ := Dp.readsAll I _ _ _ hd rv
  have hal : PySem.W.AlikeAll ((x :: xs).map PyData.str) := by
    constructor
    · intro a ha b hb
      obtain ⟨p, _, rfl⟩ := List.mem_map.mp ha
      obtain ⟨q, _, rfl⟩ := List.mem_map.mp hb
      rfl
    · intro a ha
      obtain ⟨p, _, rfl⟩ := List.mem_map.mp ha
      exact fun z => nomatch z
  have hdep : PyData.depthAll ((x :: xs).map PyData.str) ≤ 0 := FK.depth_all PyData.str 0 _ fun e _ => Nat.le_refl _
  refine PySem.W.min_list_data (I.ok.hd hc) hl.isList (by simpa using hR) hal (by have := hr.units; show X.A.units + 1 + PyData.depthAll ((x :: xs).map PyData.str) < _; omega) fun i v h' tk bs hi hrd hk => ?_
  have em : PySem.W.minD (.str x) (xs.map PyData.str) = .str x := by
    have key : ∀ l : List Str, (∀ y ∈ l, FK.leS x y = true) → (l.map PyData.str).foldl (fun a y => if PySem.W.dataLt y a then y else a) (.str x) = .str x := by
      intro l
      induction l with
      | nil => exact fun _ => rfl
      | cons y r ih =>
        intro h
        rw [List.map_cons, List.foldl_cons]
        have hy := h y List.mem_cons_self
        have e : PySem.W.dataLt (.str y) (.str x) = false := by
          rw [PySem.W.dataLt_str]
          unfold FK.leS at hy
          rw [ltCps_eq] at hy
          simpa using hy
        rw [e]
        exact ih fun z hz => h z (List.mem_cons_of_mem _ hz)
    exact key xs hle
  rw [em] at hrd
  cases hrd
  exact ⟨.str x, H, I.kept hk, ⟨_, rfl⟩, q⟩
end
end L2

/-! Forkhaul k08: Store.__contains__, __getitem__, check_trees. -/
namespace L2
open PySem PySem.Spec PyProof.Rows
/-- xs != [] -/
def rNeNil (K : PySem.W.Frag) : R2 := fun x y H Q => ∃ a b xs, x = .ref a ∧ y = .ref b ∧ SqL K H a xs ∧ SqL K H b [] ∧ Q (.bl (!xs.isEmpty)) H
theorem op_neNil {X : Cx} (hu : X.A.units < cLine) : OpR X (compareOp .NotEq) (rNeNil X.K) := by
  intro pins s σ H x y v u Q I rx ry h
  obtain ⟨a, b, xs, rfl, rfl, h1, h2, q⟩ := h
  cases rx
  cases ry
  obtain ⟨its, r1, l1, _⟩ := I.list h1
  obtain ⟨its2, r2, l2, _⟩ := I.list h2
  cases r2
  have hlen := r1.length
  cases xs with
  | nil =>
    cases r1
    refine SeqAt.RcNeAt.lists (e := fun _ => true) l1.isList l2.isList rfl hu (fun j h1 _ => ?_) _ _ _ _ ⟨.bl false, H, I, rfl, q⟩
    exact absurd h1 (by simp)
  | cons x r =>
    refine SeqAt.RcNeAt.lists_lengths l1.isList l2.isList ?_ hu _ _ _ _ ⟨.bl true, H, I, rfl, q⟩
    cases r1
    rfl
end L2
namespace FK
open PySem PySem.Spec PyProof.Rows L2 TL
open PySem.W (Frag)
section
variable {P : Program} {w : World} {K : Frag} {mg : Str → Option Value} {base : Heap}
/-- an id, or another thing -/
def OddC (H : Hp) (v : V) : Option Str → Prop
  | some z => v = .str z ∧ z.length ≤ 4000
  | none => v = .non ∨ (∃ q xs, v = .ref q ∧ H q = some (.tup xs)) ∨ ∃ q xs, v = .ref q ∧ H q = some (.lst xs)
theorem OddC.or {H : Hp} {v : V} {o : Option Str} (h : OddC H v o) : StrOr K H v o := by
  cases o with
  | some z => exact ⟨h.1, Nat.le_trans h.2 (by decide)⟩
  | none =>
    rcases h with rfl | ⟨q, xs, rfl, h⟩ | ⟨q, xs, rfl, h⟩
    · exact ⟨_, .base .non, by decide +kernel⟩
    · exact ⟨_, .base (.tup h), by decide +kernel⟩
    · exact ⟨_, .base (.lst h), by decide +kernel⟩
theorem OddC.same {H H' : Hp} {v : V} {o : Option Str} (s : Same H H') (h : OddC H v o) : OddC H' v o := by
  cases o with
  | some z => exact h
  | none =>
    rcases h with rfl | ⟨q, xs, rfl, h⟩ | ⟨q, xs, rfl, h⟩
    · exact .inl rfl
    · exact .inr (.inl ⟨q, xs, rfl, s _ _ h⟩)
    · exact .inr (.inr ⟨q, xs, rfl, s _ _ h⟩)
def hasB (ks : List (Str × Th)) (o : Option Str) : Bool := o.elim false fun z => (valS ks z).isSome
def spHas (K : Frag) : Sp := fun vs H Q _ => ∃ a kd ks v o, vs = [.ref a, v] ∧ StAt K H a kd ks ∧ OddC H v o ∧ Q (.bl (hasB ks o)) H
abbrev nHas : List Str := ["self", "name"]
theorem scHas : FnScope nHas ["self", "name"] (defScope sSHas) := ⟨rfl, rfl, rfl, by decide +kernel, rfl, by decide +kernel, by decide +kernel⟩
theorem ok_has (F : MF K "__contains__" "Store.__contains__" sSHas (mAt K (ca K "Store") "__contains__")) (T : Kit K mg) : CalF P w K mg base CX0 1 (mAt K (ca K "Store") "__contains__") ["self", "name"] (spHas K) := by
  refine calF0 F scHas (fun _ _ _ _ _ _ us hl => match us, hl with | [_, _], _ => rfl) (fun vs H Q E h => ?_) (fun cdv A outer s H vs Q E hr h => ?_)
  · obtain ⟨a, kd, ks, v, o, rfl, _⟩ := h
    rfl
  · obtain ⟨a, kd, ks, v, o, rfl, ⟨dx, kvs, h1, h2, h3⟩, ho, k⟩ := h
    have B := T.fr
    refine ⟨_, pss_one (ps_ret (pe_and (pe_callB call_isi (by rfl) B.isi (by decide +kernel) (pa_cons (pv 1) (pa_cons (pe_bltn (v := .ty "str") (by rfl) B.str boot_str rfl) pa_nil))) (pe_one (pe_cmp (pc_din (hu_of hr) (pv 1) (pe_fld (pv 0) (by rfl))))))), ?_⟩
    obtain ⟨ty, e1, e2⟩ := (ho.or (K := K)).isi
    refine ⟨_, rfl, _, _, _, _, _, rfl, .ty _, e1, e2, _, rfl, ?_⟩
    cases o with
    | none => exact k
    | some z =>
      obtain ⟨rfl, hz⟩ := ho
      refine iteT' ?_
      refine ⟨_, rfl, _, rfl, a, _, dx, _, .ref kd, rfl, h1, T.cS, T.nS2, rfl, kd, _, rfl, .inl ⟨kvs, .inr z, .inl h2, rfl, rfl⟩, ?_⟩
      rw [h3.isSome z]
      exact k
def spGet (K : Frag) : Sp := fun vs H Q _ => ∃ a kd ks z t, vs = [.ref a, .str z] ∧ StAt K H a kd ks ∧ valS ks z = some t ∧ ∀ c, ThAt K H c t → Q (.ref c) H
theorem scGet : FnScope nHas ["self", "name"] (defScope sSGet) := ⟨rfl, rfl, rfl, by decide +kernel, rfl, by decide +kernel, by decide +kernel⟩
theorem ok_get (F : MF K "__getitem__" "Store.__getitem__" sSGet (mAt K (ca K "Store") "__getitem__")) (T : Kit K mg) : CalF P w K mg base CX0 1 (mAt K (ca K "Store") "__getitem__") ["self", "name"] (spGet K) := by
  refine calF0 F scGet (fun _ _ _ _ _ _ us hl => match us, hl with | [_, _], _ => rfl) (fun vs H Q E h => ?_) (fun cdv A outer s H vs Q E hr h => ?_)
  · obtain ⟨a, kd, ks, z, t, rfl, _⟩ := h
    rfl
  · obtain ⟨a, kd, ks, z, t, rfl, ⟨dx, kvs, h1, h2, h3⟩, hv, k⟩ := h
    have B := T.fr
    refine ⟨_, pss_cons (ps_if (PW.pt (pw_or (pt_not (pt_val (pe_callB call_isi (by rfl) B.isi (by decide +kernel) (pa_cons (pv 1) (pa_cons (pe_bltn (v := .ty "str") (by rfl) B.str boot_str rfl) pa_nil)))))
        (pw_or1 (pt_cmp (pc_dnotin (hu_of hr) (pv 1) (pe_fld (pv 0) (by rfl))))))) pss_never pss_nil)
      (pss_one (ps_ret (pe_dget (hu_of hr) (pe_fld (pv 0) (by rfl)) (pv 1) (by intro _ _; rfl)))), ?_⟩
    obtain ⟨v, hv1, c, rfl, hc⟩ := h3.val_some hv
    have dg : DGet H kd (.str z) (some (.ref c)) := .inl ⟨kvs, .inr z, .inl h2, rfl, hv1.symm⟩
    refine ⟨_, rfl, _, _, _, _, _, rfl, .ty _, .base (.str _), kit_ty (show kitB "str" "str" = some true by decide +kernel), _, rfl, iteF ?_⟩
    refine ⟨_, rfl, _, rfl, a, _, dx, _, .ref kd, rfl, h1, T.cS, T.nS2, rfl, kd, _, rfl, dg, _, rfl, iteF ?_⟩
    exact ⟨_, rfl, a, _, dx, _, .ref kd, rfl, h1, T.cS, T.nS2, rfl, _, rfl, kd, _, rfl, dg, k c hc⟩
/-! ### check_trees -/
def absL (ks : List (Str × Th)) (ws : List V) (os : List (Option Str)) : List V := ((ws.zip os).filter fun p => !hasB ks p.2).map (·.1)
def spChkT (K : Frag) : Sp := fun vs H Q E => ∃ (a kd wl : Addr) (ks : List (Str × Th)) (ws : List V) (os : List (Option Str)), vs = [.ref a, .ref wl] ∧ StAt K H a kd ks ∧ H wl = some (.lst ws) ∧ ws.length ≤ 1000 ∧ Paired (OddC H) ws os ∧
  ((ws = [] ∧ ∀ H', Same H H' → Q .non H') ∨
   (ws ≠ [] ∧ absL ks ws os = [] ∧ ∀ H' dd, Same H H' → H' dd = some (.xd (fsAt (.int 0))) → E (.ref (ca K "BadObject")) (some dd) H') ∨
   (∃ v, absL ks ws os = [v] ∧ ∀ H' dd, Same H H' → H' dd = some (.xd (fsName v)) → E (.ref (ca K "NoObject")) (some dd) H') ∨
   (∃ x y r, absL ks ws os = ((x :: y :: r).map V.str) ∧ (∀ z ∈ y :: r, leS x z = true) ∧ ∀ H' dd, Same H H' → H' dd = some (.xd (fsName (.str x))) → E (.ref (ca K "NoObject")) (some dd) H'))
abbrev nChkT : List Str := ["self", "wrong", "absent", "name"]
theorem scChkT : FnScope nChkT ["self", "wrong"] (defScope sSChk) := ⟨rfl, rfl, rfl, by decide +kernel, rfl, by decide +kernel, by decide +kernel⟩
theorem absL_snoc {ks : List (Str × Th)} {ws : List V} {os : List (Option Str)} {i : Nat} {v : V} {o : Option Str} (h1 : ws[i]? = some v) (h2 : os[i]? = some o) :
    absL ks (ws.take (i + 1)) (os.take (i + 1)) = absL ks (ws.take i) (os.take i) ++ (if hasB ks o = true then [] else [v]) := by
  unfold absL
  rw [List.take_add_one, List.take_add_one, h1, h2]
  have hl : (ws.take i).length = (os.take i).length := by
    have a1 := (List.getElem?_eq_some_iff.mp h1).1
    have a2 := (List.getElem?_eq_some_iff.mp h2).1
    rw [List.length_take, List.length_take]
    omega
  rw [List.zip_append hl, List.filter_append, List.map_append]
  congr 1
  cases c : hasB ks o <;> simp [c]
theorem ok_chkt (F : MF K "check_trees" "Store.check_trees" sSChk (mAt K (ca K "Store") "check_trees")) (G : CalF P w K mg base CX0 1 (mAt K (ca K "Store") "__contains__") ["self", "name"] (spHas K)) (hC1 : PySem.W.findIn K (.ref (ca K "Store")) "__contains__" = some (some (.ref (mAt K (ca K "Store") "__contains__"))))
    (hC2 : PySem.W.isFn K (.ref (mAt K (ca K "Store") "__contains__")) = true) (T : Kit K mg) (X : Exs P w K mg base) : CalF P w K mg base (L2.CX P w) 2 (mAt K (ca K "Store") "check_trees") ["self", "wrong"] (spChkT K) := by
  obtain ⟨fdG, FG, bG⟩ := calf_nil G
  refine calFX F scChkT (fun _ _ _ _ _ _ us hl => match us, hl with | [_, _], _ => rfl) (fun vs H Q E h => ?_) (fun cdv A outer s H vs Q E hr h => ?_)
  · obtain ⟨a, kd, wl, ks, ws, os, rfl, _⟩ := h
    rfl
  · obtain ⟨a, kd, wl, ks, ws, os, rfl, hst, hwl, hlen, hos, hc⟩ := h
    have B := T.fr
    refine ⟨_, pss_cons (ps_setLc (i := 2) (own := [("name", 3)]) (g := gName 3) (tt := tTest (tOp (rInOwn (ca K "Store") (spHas K) E0 true) (tVar 3) (tVar 0))) (te := tVar 3) rfl scChkT.nd rfl rfl (sw_true rfl rfl rfl rfl) (pi_list (pv 1)) (blkOk_by (N := nChkT) (sc := defScope sSChk) (by decide +kernel))
          (fun _ _ _ _ _ => pg_name (i := 3) scChkT.nd rfl (Or.inl rfl)) (fun _ _ _ _ _ => pts_one (pt_cmpR (op_notInOwn FG bG pass0 hr hC1 hC2) (pv 3) (pv 0) rfl)) (fun _ _ _ _ _ => pv 3))
      (pss_cons (ps_if (pt_cmpR op_eq (pe_callB call_len_seq (by rfl) B.len boot_len (pa_cons (pv 2) pa_nil)) pe_int (nomark _)) (pss_one (ps_raiseE rfl X.eX X.gX hr (takes_of rfl rfl rfl rfl) (by exact (pa_cons (pe_ix ix_list (pv 2) pe_int (by intro _ _; rfl)) pa_nil)))) pss_nil)
      (pss_cons (ps_if (pt_cmpR (op_neNil hr.units0) (pv 2) (pe_lst pa_nil) rfl) (pss_one (ps_raiseE rfl X.eX X.gX hr (takes_of rfl rfl rfl rfl) (by exact (pa_cons (pe_callB (cr_minS rfl hr) (by rfl) B.min (by decide +kernel) (pa_cons (pv 2) pa_nil)) pa_nil)))) pss_nil)
      (pss_one (ps_if (pt_cmpR (op_neNil hr.units0) (pv 1) (pe_lst pa_nil) rfl) (pss_one (ps_raiseE rfl X.eO X.gO hr (takes_of rfl rfl rfl rfl) (by exact (pa_cons pe_int pa_nil)))) pss_nil)))), ?_⟩
    refine ⟨_, rfl, wl, rfl, ⟨_, SqL.of hwl⟩, fun D hD => lc_list (K := K) (a := wl) (xs := ws) (fun i H' => Same H H' ∧ H' D = some (.lst (absL ks (ws.take i) (os.take i))))
      ⟨Same.new hD, upd_same⟩ (fun i H' _ q => SqL.of (q.1 _ _ hwl)) ?_ ?_⟩
    · rintro i v H1 hv ⟨s1, l1⟩
      obtain ⟨o, ho, hoc⟩ := paired_get hos hv
      obtain ⟨dx, kvs, h1, h2, h3⟩ := hst.same s1
      refine ⟨rfl, _, rfl, _, rfl, a, dx, stF kd, rfl, h1, a, kd, ks, v, o, rfl, ⟨dx, kvs, h1, h2, h3⟩, hoc.same s1, _, rfl, _, rfl, ?_⟩
      rw [absL_snoc hv ho]
      cases c : hasB ks o with
      | true =>
        refine iteF ?_
        rw [if_pos rfl, List.append_nil]
        exact ⟨s1, l1⟩
      | false =>
        refine iteT' ?_
        rw [if_neg (by simp)]
        refine ⟨_, rfl, _, l1, ?_, s1.mut hD, upd_same⟩
        have : (absL ks (ws.take i) (os.take i)).length ≤ ws.length := by
          unfold absL
          rw [List.length_map]
          refine Nat.le_trans (List.length_filter_le _ _) ?_
          rw [List.length_zip, List.length_take]
          omega
        exact line_lt (by omega)
    rintro H1 ⟨s1, l1⟩
    rw [List.take_length] at l1
    have eos : os.take ws.length = os := List.take_of_length_le (by rw [paired_len hos]; exact Nat.le_refl _)
    rw [eos] at l1
    refine ⟨_, rfl, D, _, rfl, .inl (SqL.of l1), rfl, _, rfl, ?_⟩
    have hfin : ∀ H2, Same H H2 → Same H (H2) := fun _ s => s
    rcases hc with ⟨e0, kQ⟩ | ⟨e0, e1, kE⟩ | ⟨v, e1, kE⟩ | ⟨x, y, r, e1, hle, kE⟩
    · have ea : absL ks ws os = [] := by rw [e0]; rfl
      rw [ea] at l1 ⊢
      refine ite2 (fun c => absurd c (by decide +kernel)) (fun _ => ?_)
      refine ⟨_, rfl, Nat.zero_le _, fun q hq => ⟨D, q, [], rfl, rfl, SqL.of ((Same.new hq) _ _ l1), SqL.of upd_same, _, rfl, iteF ?_⟩⟩
      have s2 := s1.new' (o := .lst []) hq
      refine ⟨_, rfl, Nat.zero_le _, fun q2 hq2 => ⟨wl, q2, ws, rfl, rfl, SqL.of ((s2.new' hq2) _ _ hwl), SqL.of upd_same, _, rfl, ?_⟩⟩
      rw [e0]
      exact iteF (kQ _ (s2.new' hq2))
    · rw [e1] at l1 ⊢
      refine ite2 (fun c => absurd c (by decide +kernel)) (fun _ => ?_)
      refine ⟨_, rfl, Nat.zero_le _, fun q hq => ⟨D, q, [], rfl, rfl, SqL.of ((Same.new hq) _ _ l1), SqL.of upd_same, _, rfl, iteF ?_⟩⟩
      have s2 := s1.new' (o := .lst []) hq
      refine ⟨_, rfl, Nat.zero_le _, fun q2 hq2 => ⟨wl, q2, ws, rfl, rfl, SqL.of ((s2.new' hq2) _ _ hwl), SqL.of upd_same, _, rfl, ?_⟩⟩
      have ew : ws.isEmpty = false := by cases ws with | nil => exact absurd rfl e0 | cons _ _ => rfl
      rw [ew]
      refine iteT' ⟨_, rfl, fun dd hdd => kE _ dd ((s2.new' hq2).new' hdd) upd_same⟩
    · rw [e1] at l1 ⊢
      refine ite2 (fun _ => ?_) (fun c => absurd rfl c)
      exact ⟨_, rfl, D, _, _, _, rfl, rfl, SqL.of l1, rfl, _, rfl, fun dd hdd => kE _ dd (s1.new' hdd) upd_same⟩
    · rw [e1] at l1 ⊢
      refine ite2 (fun c => ?_) (fun _ => ?_)
      · have c := of_decide_eq_true c
        injection c with c
        simp at c
        omega
      refine ⟨_, rfl, Nat.zero_le _, fun q hq => ⟨D, q, _, rfl, rfl, SqL.of ((Same.new hq) _ _ l1), SqL.of upd_same, _, rfl, iteT' ?_⟩⟩
      have s2 := s1.new' (o := .lst []) hq
      exact ⟨_, rfl, D, x, y :: r, rfl, SqL.of ((Same.new hq) _ _ l1), hle, _, rfl, fun dd hdd => kE _ dd (s2.new' hdd) upd_same⟩
end
end FK

/-! Forkhaul k08: Store.files_of. -/
namespace FK
open PySem PySem.Spec PyProof.Rows L2 TL
open PySem.W (Frag)
/-- what lies ahead: a front, an id (or another thing) -/
abbrev Ah := Str × V × Option Str
def entsOf (ks : List (Str × Th)) (o : Option Str) : Option (List Ent) := match o with
  | some z => match valS ks z with
    | some (.tree es) => some es
    | _ => none
  | none => none
def pushes (f : Str) (es : List Ent) : List Ah := es.filterMap fun e => if e.2.1 = ("dir" : Str) then some (f ++ e.1 ++ ("/" : Str), .str e.2.2, some e.2.2) else none
def puts (F : List (Str × (Str × Str))) (f : Str) (es : List Ent) : List (Str × (Str × Str)) := es.foldl (fun F e => if e.2.1 = ("dir" : Str) then F else putS F (f ++ e.1) e.2) F
/-- the walk, of n turns -/
inductive Runs (ks : List (Str × Th)) : Nat → List Ah → List (Str × (Str × Str)) → List (V × Option Str) → List (Str × (Str × Str)) → List (V × Option Str) → Prop where
  | done {F W} : Runs ks 0 [] F W F W
  | step {n st f v o F W F' W'} (hf : f.length ≤ 4000) (hst : st.length ≤ 4000) (hF : F.length ≤ 4000) (hW : W.length ≤ 900)
      (r : Runs ks n (st ++ pushes f ((entsOf ks o).getD [])) (puts F f ((entsOf ks o).getD [])) (if (entsOf ks o).isSome then W else W ++ [(v, o)]) F' W') : Runs ks (n + 1) (st ++ [(f, v, o)]) F W F' W'
theorem pushes_snoc (f : Str) (es : List Ent) (e : Ent) : pushes f (es ++ [e]) = pushes f es ++ if e.2.1 = ("dir" : Str) then [(f ++ e.1 ++ ("/" : Str), .str e.2.2, some e.2.2)] else [] := by
  unfold pushes
  rw [List.filterMap_append]
  by_cases c : e.2.1 = ("dir" : Str) <;> simp [c]
theorem puts_snoc (F : List (Str × (Str × Str))) (f : Str) (es : List Ent) (e : Ent) : puts F f (es ++ [e]) = if e.2.1 = ("dir" : Str) then puts F f es else putS (puts F f es) (f ++ e.1) e.2 := by
  unfold puts
  rw [List.foldl_append]
  rfl
theorem puts_len (f : Str) : ∀ (es : List Ent) (F : List (Str × (Str × Str))), (puts F f es).length ≤ F.length + es.length
  | [], F => Nat.le_refl _
  | e :: es, F => by
    show (puts (if e.2.1 = ("dir" : Str) then F else putS F (f ++ e.1) e.2) f es).length ≤ _
    have h1 := puts_len f es (if e.2.1 = ("dir" : Str) then F else putS F (f ++ e.1) e.2)
    have h2 := putS_len (l := F) (k := f ++ e.1) (v := e.2)
    have h3 : (if e.2.1 = ("dir" : Str) then F else putS F (f ++ e.1) e.2).length ≤ F.length + 1 := by
      split
      · omega
      · exact h2
    rw [List.length_cons]
    omega
theorem pushes_len (f : Str) (es : List Ent) : (pushes f es).length ≤ es.length := List.length_filterMap_le _ _
theorem puts_nodup (f : Str) : ∀ (es : List Ent) (F : List (Str × (Str × Str))), (F.map (·.1)).Nodup → ((puts F f es).map (·.1)).Nodup
  | [], F, h => h
  | e :: es, F, h => by
    show ((puts (if e.2.1 = ("dir" : Str) then F else putS F (f ++ e.1) e.2) f es).map (·.1)).Nodup
    refine puts_nodup f es _ ?_
    split
    · exact h
    · exact putS_nodup h
/-- the store's trees are good -/
def KsGood (ks : List (Str × Th)) : Prop := ∀ x ∈ ks, ThGood x.2
theorem entsOf_good {ks : List (Str × Th)} (h : KsGood ks) {o : Option Str} {es : List Ent} (e : entsOf ks o = some es) : TreeOk es := by
  cases o with
  | none => cases e
  | some z =>
    unfold entsOf at e
    cases c : valS ks z with
    | none => simp [c] at e
    | some t =>
      cases t with
      | blob => simp [c] at e
      | tree fs =>
        simp [c] at e
        subst e
        exact h _ (valS_some c)
abbrev rAddS : R2 := fun x y H Q => ∃ i j, x = .str i ∧ y = .str j ∧ i.length + j.length ≤ sizeLine ∧ Q (.str (i ++ j)) H
/-- the inner for -/
def tFF (K : Frag) : TS := tFor (iItems (tFrz (tProp (ca K "Tree") (spTEnt K) [] E0 (tVar 7)))) (gTup K 2 (gCons (gName 8) (gCons (gTup K 2 (gCons (gName 9) (gCons (gName 10) gNil))) gNil)))
  (tIfS (tTest (tOp rEq (tVar 9) (tC (.str "dir")))) (tDrop (tBM K "list" rAppend (tVar 4) (tCons (tTup (tCons (tOp rAddS (tOp rAddS (tVar 5) (tVar 8)) (tC (.str "/"))) (tCons (tVar 10) tNil))) tNil)))
    (sDPut (tVar 2) (tOp rAddS (tVar 5) (tVar 8)) (tTup (tCons (tVar 9) (tCons (tVar 10) tNil)))))
def AhAt (H : Hp) (x : V) (it : Ah) : Prop := ∃ q, x = .ref q ∧ H q = some (.tup [.str it.1, it.2.1])
theorem AhAt.same {H H' : Hp} {x : V} {it : Ah} (h : AhAt H x it) (s : Same H H') : AhAt H' x it := by
  obtain ⟨q, e, h⟩ := h
  exact ⟨q, e, s _ _ h⟩
theorem AhAt.mut {H : Hp} {x : V} {it : Ah} {d : Addr} {o u : HO} (h : AhAt H x it) (hd : H d = some u) (hu : ∀ xs, u ≠ .tup xs) : AhAt (upd H d o) x it := by
  obtain ⟨q, e, hq⟩ := h
  exact ⟨q, e, by rw [upd_ne (ne_of hq hd (hu _).symm)]; exact hq⟩
theorem ff_ok {K : Frag} {mg : Str → Option Value} (T : Kit K mg) {a fd wl ah tr : Addr} {v : V} {f : Str} {x6 x8 x9 x10 x11 : Option V} {D : Ends} {H : Hp} {es : List Ent} {st : List Ah} {F0 : List (Str × (Str × Str))} {avs : List V} {fk : List (Key × V)}
    (ht : TreeAt K H tr es) (hes : TreeOk es) (hf : f.length ≤ 4000) (hah : H ah = some (.lst avs)) (hst : Paired (AhAt H) avs st) (hl : st.length ≤ 4000) (hfd : H fd = some (.dK fk)) (hdr : DR (PairAt H) fk F0) (hF : F0.length ≤ 4000)
    (k : ∀ y8 y9 y10 H' avs' fk', But2 ah fd H H' → H' ah = some (.lst avs') → Paired (AhAt H') avs' (st ++ pushes f es) → H' fd = some (.dK fk') → DR (PairAt H') fk' (puts F0 f es) →
      D.nx [some (.ref a), some v, some (.ref fd), some (.ref wl), some (.ref ah), some (.str f), x6, some (.ref tr), y8, y9, y10, x11] H') :
    tFF K D [some (.ref a), some v, some (.ref fd), some (.ref wl), some (.ref ah), some (.str f), x6, some (.ref tr), x8, x9, x10, x11] H := by
  have ht' := ht
  obtain ⟨dx, tt, rs, ha1, ha2, ha3⟩ := ht
  refine ⟨_, rfl, tr, dx, _, rfl, ha1, tr, es, rfl, ht', hes.nd, hes.len, fun H1 d kvs s1 hd0 hd dr => ?_⟩
  refine ⟨d, .dK kvs, rfl, hd, trivial, fun od => ?_⟩
  refine ⟨d, od, kvs, rfl, upd_same, ?_⟩
  have nda : ah ≠ d := ne_of_none hah hd0
  have ndf : fd ≠ d := ne_of_none hfd hd0
  have naf : ah ≠ fd := ne_of hah hfd (by intro z; cases z)
  have sb : Same H (upd H1 d (.frz od (.dK kvs))) := s1.mut hd0
  have dr' : DR (PairAt (upd H1 d (.frz od (.dK kvs)))) kvs es := dr.imp fun v p q => q.mut hd (by intro _ z; cases z)
  refine for_of (n := kvs.length) (fun i σ H' => (∃ y8 y9 y10, σ = [some (.ref a), some v, some (.ref fd), some (.ref wl), some (.ref ah), some (.str f), x6, some (.ref tr), y8, y9, y10, x11]) ∧ But2 ah fd H H' ∧ H' d = some (.frz od (.dK kvs)) ∧ DR (PairAt H') kvs es ∧
      (∃ avs', H' ah = some (.lst avs') ∧ Paired (AhAt H') avs' (st ++ pushes f (es.take i))) ∧ ∃ fk', H' fd = some (.dK fk') ∧ DR (PairAt H') fk' (puts F0 f (es.take i))) ?_ ?_ ?_ ?_ ?_
  · exact ⟨⟨_, _, _, rfl⟩, fun b o _ _ e => sb _ _ e, upd_same, dr', ⟨avs, sb _ _ hah, by rw [List.take_zero]; show Paired _ avs (st ++ []); rw [List.append_nil]; exact L2.Paired.mapP hst fun _ _ q => q.same sb⟩, fk, sb _ _ hfd, hdr.imp fun v y q => q.same sb⟩
  · exact fun i σ H' hi q => ⟨q.2.2.1, hi⟩
  · exact fun σ H' q => ⟨q.2.2.1, Nat.le_refl _⟩
  · rintro i y σ H2 H3 hi ⟨⟨y8, y9, y10, rfl⟩, b2, hd2, dr2, ⟨av2, ha2', hp2⟩, fk2, hf2, hdf2⟩ ⟨T0, kk, vv, hkv, rfl, hT, rfl⟩
    obtain ⟨e, he, rfl, q, rfl, hq⟩ := dr2.get hkv
    have sT : Same H2 (upd H2 T0 (.tup [kV (.inr e.1), .ref q])) := Same.new hT
    have hv := hes.ok e (List.mem_of_getElem? he)
    have l2 := segLen hv.seg
    have hi64 : i < 64 := by
      have := (List.getElem?_eq_some_iff.mp he).1
      have := hes.len
      omega
    have htk : es.take (i + 1) = es.take i ++ [e] := by rw [List.take_add_one, he]; rfl
    have e2 : (Str.ofString "/").length = 1 := by decide +kernel
    refine ⟨T0, _, rfl, SqT.of upd_same, rfl, _, _, rfl, _, _, rfl, ⟨q, _, rfl, SqT.of (sT _ _ hq), rfl, _, _, rfl, _, _, rfl, rfl, rfl, ?_⟩⟩
    refine ⟨_, rfl, rfl, _, rfl, ?_⟩
    refine ite2 (fun c => ?_) (fun c => ?_)
    · have hc : e.2.1 = ("dir" : Str) := V.str.inj (of_decide_eq_true c)
      refine ⟨_, rfl, .inl ⟨rfl, _, SqL.of (sT _ _ ha2')⟩, ?_⟩
      refine ⟨_, rfl, _, rfl, f, e.1, rfl, rfl, line_of (by omega), _, _, rfl, rfl, line_of (by rw [len_app, e2]; omega), _, rfl, (by show 2 ≤ sizeLine; exact line_of (by decide)), fun T1 hT1 => ?_⟩
      have sT1 := Same.new (o := .tup [.str (f ++ e.1 ++ ("/" : Str)), .str e.2.2]) hT1
      have sTT := sT.trans sT1
      have ha4 := sTT _ _ ha2'
      refine ⟨ah, _, _, rfl, rfl, ha4, ?_, ⟨_, _, _, rfl⟩, ?_, ?_, ?_, ⟨_, upd_same, ?_⟩, fk2, ?_, ?_⟩
      · rw [paired_len hp2, List.length_append]
        have := pushes_len f (es.take i)
        have := List.length_take_le i es
        exact line_lt (by omega)
      · exact fun b o n1 n2 hb => by rw [upd_ne n1]; exact sTT _ _ (b2 _ _ n1 n2 hb)
      · rw [upd_ne nda.symm]; exact sTT _ _ hd2
      · exact dr2.imp fun v p q => PairAt.mut (u := .lst av2) (q.same sTT) ha4 (by intro _ z; cases z)
      · rw [htk, pushes_snoc, if_pos hc, ← List.append_assoc]
        have q1 : AhAt (upd (upd H2 T0 (.tup [kV (.inr e.1), .ref q])) T1 (.tup [.str (f ++ e.1 ++ ("/" : Str)), .str e.2.2])) (.ref T1) (f ++ e.1 ++ ("/" : Str), .str e.2.2, some e.2.2) := ⟨T1, rfl, upd_same⟩
        exact paired_snoc (AhAt.mut (u := .lst av2) q1 ha4 (by intro _ z; cases z)) (L2.Paired.mapP hp2 fun _ _ q => AhAt.mut (u := .lst av2) (q.same sTT) ha4 (by intro _ z; cases z))
      · rw [upd_ne naf.symm]; exact sTT _ _ hf2
      · rw [htk, puts_snoc, if_pos hc]
        exact hdf2.imp fun v p q => PairAt.mut (u := .lst av2) (q.same sTT) ha4 (by intro _ z; cases z)
    · have hc : ¬ e.2.1 = ("dir" : Str) := fun z => c (by rw [z]; exact decide_eq_true rfl)
      refine ⟨_, rfl, _, rfl, (by show 2 ≤ sizeLine; exact line_of (by decide)), fun T1 hT1 => ?_⟩
      have sT1 := Same.new (o := .tup [.str e.2.1, .str e.2.2]) hT1
      have sTT := sT.trans sT1
      have hf4 := sTT _ _ hf2
      refine ⟨_, rfl, _, rfl, _, rfl, f, e.1, rfl, rfl, line_of (by omega), fd, _, rfl, .inl ⟨fk2, .inr (f ++ e.1), hf4, rfl, ?_, rfl⟩, ⟨_, _, _, rfl⟩, ?_, ?_, ?_, ⟨av2, ?_, ?_⟩, _, upd_same, ?_⟩
      · rw [hdf2.len]
        have := puts_len f (es.take i) F0
        have := List.length_take_le i es
        exact line_lt (by omega)
      · exact fun b o n1 n2 hb => by rw [upd_ne n2]; exact sTT _ _ (b2 _ _ n1 n2 hb)
      · rw [upd_ne ndf.symm]; exact sTT _ _ hd2
      · exact dr2.imp fun v p q => PairAt.mut (u := .dK fk2) (q.same sTT) hf4 (by intro _ z; cases z)
      · rw [upd_ne naf]; exact sTT _ _ ha2'
      · rw [htk, pushes_snoc, if_neg hc, List.append_nil]
        exact L2.Paired.mapP hp2 fun _ _ q => AhAt.mut (u := .dK fk2) (q.same sTT) hf4 (by intro _ z; cases z)
      · rw [htk, puts_snoc, if_neg hc]
        have q1 : PairAt (upd (upd H2 T0 (.tup [kV (.inr e.1), .ref q])) T1 (.tup [.str e.2.1, .str e.2.2])) (.ref T1) e.2 := ⟨T1, rfl, upd_same⟩
        exact DR.put (hdf2.imp fun v p q => PairAt.mut (u := .dK fk2) (q.same sTT) hf4 (by intro _ z; cases z)) (PairAt.mut (u := .dK fk2) q1 hf4 (by intro _ z; cases z))
  · rintro σ H2 ⟨⟨y8, y9, y10, rfl⟩, b2, hd2, dr2, ⟨av2, ha2', hp2⟩, fk2, hf2, hdf2⟩
    have e0 : es.take kvs.length = es := List.take_of_length_le (by rw [dr.len]; exact Nat.le_refl _)
    rw [e0] at hp2 hdf2
    exact k _ _ _ H2 av2 fk2 b2 ha2' hp2 hf2 hdf2
theorem ents_nil : ents [] = [] := by simp [ents, srt]
theorem paired_snoc_inv {α β : Type} {F : α → β → Prop} : ∀ {l : List α} {m : List β} {b : β}, Paired F l (m ++ [b]) → ∃ l' a, l = l' ++ [a] ∧ Paired F l' m ∧ F a b
  | _, [], _, .cons h .nil => ⟨[], _, rfl, .nil, h⟩
  | _, _ :: m, _, .cons h r => by
    obtain ⟨l', a, rfl, h1, h2⟩ := paired_snoc_inv (m := m) r
    exact ⟨_ :: l', a, rfl, .cons h h1, h2⟩
theorem dc_list {K : Frag} {a : Addr} {xs : List V} {g : TG} {tt : TT} {tk tv : TE} {vs : List Nat} {σ : L2.St} {H1 : Hp} {D : Addr} {Qd : Hp → Prop} (Pv : Nat → Hp → Prop) (h0 : Pv 0 (upd H1 D (.dK []))) (hl : ∀ i H, i ≤ xs.length → Pv i H → SqL K H a xs)
    (hs : ∀ i x H, xs[i]? = some x → Pv i H → g x (wipe σ vs) H fun σ2 H2 => wipe σ2 vs = wipe σ vs ∧ tt σ2 H2 fun b H3 =>
      if b = true then tk σ2 H3 fun y H4 => tv σ2 H4 fun z H5 => ∃ kvs k, y = kV k ∧ H5 D = some (.dK kvs) ∧ kvs.length < sizeLine ∧ Pv (i + 1) (upd H5 D (.dK (putK kvs k z))) else Pv (i + 1) H3) (hd : ∀ H, Pv xs.length H → Qd H) :
    ∃ W : Nat → Nat → Hp → Prop, (∃ m, W 0 m (upd H1 D (.dK []))) ∧ ∀ i m H, W i m H →
      ((Itl K a).stop i H ∧ Qd H) ∨ ((Itl K a).go i H ∧ ∃ Nx : Hp → Prop, (∀ H', Nx H' → ∃ m', m' < m ∧ W (i + 1) m' H') ∧ ∀ x H', (Itl K a).yld i H x H' → g x (wipe σ vs) H' fun σ2 H2 => wipe σ2 vs = wipe σ vs ∧ tt σ2 H2 fun b H3 =>
        if b = true then tk σ2 H3 fun y H4 => tv σ2 H4 fun z H5 => ∃ kvs k, y = kV k ∧ H5 D = some (.dK kvs) ∧ kvs.length < sizeLine ∧ Nx (upd H5 D (.dK (putK kvs k z))) else Nx H3) := by
  refine dc_of (n := xs.length) Pv h0 (fun i H hi p => ?_) (fun H p => ⟨xs, hl _ _ (Nat.le_refl _) p, Nat.le_refl _⟩) (fun i x H H' hi p y => ?_) hd
  · obtain ⟨x, hx⟩ : ∃ x, xs[i]? = some x := ⟨xs[i], List.getElem?_eq_getElem hi⟩
    exact ⟨xs, x, hl _ _ (Nat.le_of_lt hi) p, hx⟩
  · obtain ⟨rfl, y⟩ := y
    exact hs i x _ (y _ (hl _ _ (Nat.le_of_lt hi) p)) p
/-- the state of the walk -/
def Sit (H : Hp) (a fd wl ah : Addr) (v : V) (σ : L2.St) (H' : Hp) (st : List Ah) (F0 : List (Str × (Str × Str))) (W0 : List (V × Option Str)) : Prop :=
  (∃ x5 x6 x7 x8 x9 x10 x11, σ = [some (.ref a), some v, some (.ref fd), some (.ref wl), some (.ref ah), x5, x6, x7, x8, x9, x10, x11]) ∧ Same H H' ∧ (∃ fk, H' fd = some (.dK fk) ∧ DR (PairAt H') fk F0) ∧ H' wl = some (.lst (W0.map (·.1))) ∧
  (∃ avs, H' ah = some (.lst avs) ∧ Paired (AhAt H') avs st) ∧ (∀ x ∈ W0, OddC H x.1 x.2) ∧ (∀ x ∈ st, OddC H x.2.1 x.2.2) ∧ (F0.map (·.1)).Nodup ∧ F0.length ≤ 4100 ∧ W0.length ≤ 1000
section
variable {P : Program} {w : World} {K : Frag} {mg : Str → Option Value} {base : Heap}
def spFiles (K : Frag) : Sp := fun vs H Q E => ∃ (a kd : Addr) (ks : List (Str × Th)) (v : V) (o : Option Str) (n : Nat) (F : List (Str × (Str × Str))) (W : List (V × Option Str)), vs = [.ref a, v] ∧ StAt K H a kd ks ∧ OddC H v o ∧ KsGood ks ∧ Runs ks n [(Str.ofString "", v, o)] [] [] F W ∧
  ((W = [] ∧ ∀ H' d, Same H H' → H d = none → FdAt H' d (ents F) → Q (.ref d) H') ∨
   (W ≠ [] ∧ absL ks (W.map (·.1)) (W.map (·.2)) = [] ∧ ∀ H' dd, Same H H' → H' dd = some (.xd (fsAt (.int 0))) → E (.ref (ca K "BadObject")) (some dd) H') ∨
   (∃ v, W ≠ [] ∧ absL ks (W.map (·.1)) (W.map (·.2)) = [v] ∧ ∀ H' dd, Same H H' → H' dd = some (.xd (fsName v)) → E (.ref (ca K "NoObject")) (some dd) H') ∨
   (∃ x y r, W ≠ [] ∧ absL ks (W.map (·.1)) (W.map (·.2)) = ((x :: y :: r).map V.str) ∧ (∀ z ∈ y :: r, leS x z = true) ∧ ∀ H' dd, Same H H' → H' dd = some (.xd (fsName (.str x))) → E (.ref (ca K "NoObject")) (some dd) H'))
abbrev nFiles : List Str := ["self", "name", "found", "wrong", "ahead", "front", "one", "tree", "segment", "kind", "target", "path"]
theorem scFiles : FnScope nFiles ["self", "name"] (defScope sSFiles) := ⟨rfl, rfl, rfl, by decide +kernel, rfl, by decide +kernel, by decide +kernel⟩
theorem ok_files (F : MF K "files_of" "Store.files_of" sSFiles (mAt K (ca K "Store") "files_of")) (GK : CalF P w K mg base (L2.CX P w) 2 (mAt K (ca K "Store") "check_trees") ["self", "wrong"] (spChkT K)) (mK : Meth K (ca K "Store") "check_trees" (mAt K (ca K "Store") "check_trees"))
    (GT : CalF P w K mg base (L2.CX P w) 4 (mAt K (ca K "Tree") "__init__") ["self", "entries"] (spTInit K)) (GE : CalF P w K mg base CX0 1 (gAt K (ca K "Tree") "entries") ["self"] (spTEnt K)) (T : Kit K mg) : CalF P w K mg base (L2.CX P w) 6 (mAt K (ca K "Store") "files_of") ["self", "name"] (spFiles K) := by
  refine calFX F scFiles (fun _ _ _ _ _ _ us hl => match us, hl with | [_, _], _ => rfl) (fun vs H Q E h => ?_) (fun cdv A outer s H vs Q E hr h => ?_)
  · obtain ⟨a, kd, ks, v, o, n, F, W, rfl, _⟩ := h
    rfl
  · obtain ⟨a, kd, ks, v, o, n, F, W, rfl, hst, ho, hgood, hrun, hc⟩ := h
    have B := T.fr
    refine ⟨_, (pss_cons (ps_set (i := 2) scFiles.nd rfl (Or.inr rfl) pe_dnewK)
        (pss_cons (ps_set (i := 3) scFiles.nd rfl (Or.inl rfl) (pe_lst pa_nil))
        (pss_cons (ps_set (i := 4) scFiles.nd rfl (Or.inl rfl) (pe_lst (pa_cons (pe_tup (pa_cons pe_str (pa_cons (pv 1) pa_nil))) pa_nil)))
        (pss_cons (ps_while (passes_of rfl) (pt_cmpR (op_neNil hr.units0) (pv 4) (pe_lst pa_nil) rfl)
        (pss_cons (ps_asg (g := gTup K 2 (gCons (gName 5) (gCons (gName 6) gNil))) (pe_bm0 PySem.F.plainAttrs_list PySem.F.slot_list_pop PySem.F.type_list_pop mt_pop (pv 4)) (pg_tup rfl (pgs_cons (pg_name (i := 5) scFiles.nd rfl (Or.inl rfl)) (pgs_cons (pg_name (i := 6) scFiles.nd rfl (Or.inl rfl)) pgs_nil))))
        (pss_cons (ps_set (i := 7) scFiles.nd rfl (Or.inl rfl) (pe_ifExp (pt_val (pe_callB call_isi (by rfl) B.isi (by decide +kernel) (pa_cons (pv 6) (pa_cons (pe_bltn (v := .ty "str") (by rfl) B.str boot_str rfl) pa_nil)))) (pe_dget1 (hu_of hr) (pe_fld (pv 0) (by rfl)) (pv 6) ⟨rfl, rfl, rfl, rfl⟩) pe_non))
        (pss_cons (ps_if (pt_not (pt_val (pe_callB call_isi (by rfl) B.isi (by decide +kernel) (pa_cons (pv 7) (pa_cons (pe_glob (v := .ref (ca K "Tree")) (by rfl) T.gT rfl) pa_nil))))) (pss_cons (ps_expr (pe_bm PySem.F.plainAttrs_list PySem.F.slot_list_append PySem.F.type_list_append mt_append (pv 3) (pa_cons (pv 6) pa_nil)))
        (pss_one (ps_set (i := 7) scFiles.nd rfl (Or.inl rfl) (pmake (E := E) GT T.mkT hr (by rfl) T.gT (passX (takes_of rfl rfl rfl rfl)) (pa_cons pe_dnewK pa_nil))))) pss_nil)
        (pss_one (ps_for (g := gTup K 2 (gCons (gName 8) (gCons (gTup K 2 (gCons (gName 9) (gCons (gName 10) gNil))) gNil))) (passes_of rfl) rfl (pi_items (pe_frz (pprop GE (pv 7) T.cT T.prT (hr.mono (by decide : 2 ≤ 5)) pass0)))
            (pg_tup rfl (pgs_cons (pg_name (i := 8) scFiles.nd rfl (Or.inl rfl)) (pgs_cons (pg_tup rfl (pgs_cons (pg_name (i := 9) scFiles.nd rfl (Or.inl rfl)) (pgs_cons (pg_name (i := 10) scFiles.nd rfl (Or.inl rfl)) pgs_nil))) pgs_nil)))
            (pss_one (ps_if (pt_cmpR op_eq (pv 9) pe_str (nomark _)) (pss_one (ps_expr (pe_bm PySem.F.plainAttrs_list PySem.F.slot_list_append PySem.F.type_list_append mt_append (pv 4) (pa_cons (pe_tup (pa_cons (pe_op op_add_str (pe_op op_add_str (pv 5) (pv 8)) pe_str) (pa_cons (pv 10) pa_nil))) pa_nil)))) (pss_one (ps_dput (hu_of hr) (pv 2) (pe_op op_add_str (pv 5) (pv 8)) (pe_tup (pa_cons (pv 9) (pa_cons (pv 10) pa_nil))) (by rfl)))))))))))
        (pss_cons (ps_expr (pmeth (E := E) (GK.mono (by decide : 2 ≤ 5)) (pv 0) T.cS mK hr (passX (takes_of rfl rfl rfl rfl)) (pa_cons (pv 3) pa_nil)))
        (pss_one (ps_ret (pe_dc (own := [("path", 11)]) (g := gName 11) (tt := tYes) (tk := tVar 11) (tv := tDGet (tVar 2) (tVar 11)) rfl scFiles.nd (pi_list (pe_callB (call_sortedDA rfl) (by rfl) B.sorted (by decide +kernel) (pa_cons (pv 2) pa_nil))) (blkOk_by (N := nFiles) (sc := defScope sSFiles) (by decide +kernel)) (fun _ _ _ _ _ => (pg_name (i := 11) scFiles.nd rfl (Or.inl rfl))) (fun _ _ _ _ _ => pts_nil) (fun _ _ _ _ _ => pv 11) (fun _ _ _ _ _ => pe_dget (hu_of hr) (pv 2) (pv 11) (by intro _ _; rfl)))))))))), ?_⟩
    intro fd hfd
    refine ⟨Nat.zero_le _, fun wl hwl => ?_⟩
    refine ⟨_, rfl, (by show 2 ≤ sizeLine; exact line_of (by decide)), fun q0 hq0 => ⟨(by show 1 ≤ sizeLine; exact line_of (by decide)), fun ah hah => ?_⟩⟩
    have s1 : Same H (upd H fd (.dK [])) := Same.new hfd
    have s2 := s1.new' (o := .lst []) hwl
    have s3 := s2.new' (o := .tup [.str (Str.ofString ""), v]) hq0
    have s4 := s3.new' (o := .lst [.ref q0]) hah
    have hwl0 : H wl = none := Same.free s1 hwl
    have hah0 : H ah = none := Same.free s3 hah
    have n1 : fd ≠ wl := ne_of_none (upd_same (H := H) (o := HO.dK [])) hwl
    have n2 : wl ≠ ah := ne_of_none (show (upd (upd (upd H fd (.dK [])) wl (.lst [])) q0 (.tup [.str (Str.ofString ""), v])) wl = some (.lst []) by rw [upd_ne (ne_of_none upd_same hq0)]; exact upd_same) hah
    have n3 : fd ≠ ah := ne_of_none (show (upd (upd (upd H fd (.dK [])) wl (.lst [])) q0 (.tup [.str (Str.ofString ""), v])) fd = some (.dK []) by
      have e : (upd (upd H fd (.dK [])) wl (.lst [])) fd = some (.dK []) := by rw [upd_ne n1]; exact upd_same
      rw [upd_ne (ne_of_none e hq0)]; exact e) hah
    refine ⟨fun m σ H' => ∃ st F0 W0, Runs ks m st F0 W0 F W ∧ Sit H a fd wl ah v σ H' st F0 W0, ⟨n, _, _, _, hrun, ⟨_, _, _, _, _, _, _, rfl⟩, s4, ⟨[], ?_, .nil⟩, ?_, ⟨[.ref q0], upd_same, .cons ⟨q0, rfl, ?_⟩ .nil⟩, fun x hx => (by cases hx), fun x hx => ?_, .nil, by decide, by decide⟩, ?_⟩
    · have e : (upd (upd H fd (.dK [])) wl (.lst [])) fd = some (.dK []) := by rw [upd_ne n1]; exact upd_same
      rw [upd_ne n3, upd_ne (ne_of_none e hq0)]; exact e
    · rw [upd_ne n2, upd_ne (ne_of_none upd_same hq0)]; exact upd_same
    · rw [upd_ne (ne_of_none upd_same hah)]; exact upd_same
    · rw [List.mem_singleton.mp hx]; exact ho
    rintro m σ H1 ⟨st, F0, W0, hR, ⟨x5, x6, x7, x8, x9, x10, x11, rfl⟩, sH, ⟨fk, hf1, hdf⟩, hw1, ⟨avs, ha1, hpa⟩, hW0, hst0, hnd0, hF0, hW00⟩
    refine ⟨_, rfl, Nat.zero_le _, fun qn hqn => ⟨ah, qn, avs, rfl, rfl, SqL.of ((Same.new hqn) _ _ ha1), SqL.of upd_same, _, rfl, ?_⟩⟩
    have sn : Same H1 (upd H1 qn (.lst [])) := Same.new hqn
    have sHn := sH.trans sn
    have hf2 := sn _ _ hf1
    have hdf2 : DR (PairAt (upd H1 qn (.lst []))) fk F0 := hdf.imp fun v y q => q.same sn
    have hw2 := sn _ _ hw1
    have ha2 := sn _ _ ha1
    have hpa2 : Paired (AhAt (upd H1 qn (.lst []))) avs st := L2.Paired.mapP hpa fun _ _ q => q.same sn
    generalize upd H1 qn (.lst []) = H2 at sHn hf2 hdf2 hw2 ha2 hpa2
    cases hR with
    | done =>
      cases hpa2
      refine iteF ?_
      -- check_trees
      obtain ⟨dxS, kvS, hS1, hS2, hS3⟩ := hst.same sHn
      have hWp : Paired (OddC H2) (W.map (·.1)) (W.map (·.2)) := by
        have : ∀ l : List (V × Option Str), (∀ x ∈ l, OddC H x.1 x.2) → Paired (OddC H2) (l.map (·.1)) (l.map (·.2)) := by
          intro l
          induction l with
          | nil => exact fun _ => .nil
          | cons x r ih => exact fun h => .cons ((h x List.mem_cons_self).same sHn) (ih fun y hy => h y (List.mem_cons_of_mem _ hy))
        exact this W hW0
      refine ⟨_, rfl, a, dxS, stF kd, rfl, hS1, rfl, _, rfl, a, kd, wl, ks, W.map (·.1), W.map (·.2), rfl, ⟨dxS, kvS, hS1, hS2, hS3⟩, hw2, by rw [List.length_map]; exact hW00, hWp, ?_⟩
      rcases hc with ⟨e0, kQ⟩ | ⟨e0, e1, kE⟩ | ⟨v1, e0, e1, kE⟩ | ⟨x, y, r, e0, e1, hle, kE⟩
      · refine .inl ⟨by rw [e0]; rfl, fun H3 s3 => ?_⟩
        have sH3 := sHn.trans s3
        have hf3 := s3 _ _ hf2
        have hdf3 : DR (PairAt H3) fk F := hdf2.imp fun v y q => q.same s3
        obtain ⟨g1, g2⟩ := ents_get hnd0
        refine ⟨_, rfl, fd, fk, F.map (·.1), rfl, .inl hf3, hdf3.keys, by rw [List.length_map]; omega, fun ys p hperm hsort hp => ?_⟩
        obtain rfl := srt_unique hperm hsort
        have sp : Same H3 (upd H3 p (.lst ((srt (F.map (·.1))).map V.str))) := Same.new hp
        refine ⟨p, rfl, ⟨_, SqL.of upd_same⟩, fun D hD => dc_list (K := K) (a := p) (xs := (srt (F.map (·.1))).map V.str) (fun i H' => Same (upd H3 p (.lst ((srt (F.map (·.1))).map V.str))) H' ∧ ∃ kvs, H' D = some (.dK kvs) ∧ DR (PairAt H') kvs ((ents F).take i))
          ⟨Same.new hD, [], upd_same, .nil⟩ (fun i H' _ q => q.1.seq (SqL.of upd_same)) ?_ ?_⟩
        · rintro i yv H4 hy ⟨s5, kvs, l5, d5⟩
          obtain ⟨z, hz, rfl⟩ : ∃ z, (srt (F.map (·.1)))[i]? = some z ∧ yv = V.str z := by
            rw [List.getElem?_map] at hy
            cases e : (srt (F.map (·.1)))[i]? with
            | none => rw [e] at hy; cases hy
            | some z => rw [e] at hy; exact ⟨z, rfl, (Option.some.inj hy).symm⟩
          obtain ⟨pr, hpr, hent⟩ := g2 i z hz
          obtain ⟨v3, hv3, hpv⟩ := hdf3.val_some hpr
          have s34 := sp.trans s5
          refine ⟨rfl, _, rfl, _, rfl, _, rfl, fd, v3, rfl, .inl ⟨fk, .inr z, .inl (s34 _ _ hf3), rfl, hv3.symm⟩, kvs, .inr z, rfl, l5, ?_, s5.mut hD, _, upd_same, ?_⟩
          · rw [d5.len]
            exact line_lt (Nat.le_trans (List.length_take_le' _ _) (by rw [g1]; omega))
          · have hne : valS ((ents F).take i) z = none := by
              have nd : ((ents F).map (·.1)).Nodup := by rw [ents_keys hnd0]; exact srt_nodup hnd0
              exact take_nodup_fresh (f := (z, pr)) nd hent
            have e3 : (ents F).take (i + 1) = putS ((ents F).take i) z pr := by
              rw [putS_new hne, List.take_add_one, hent]; rfl
            rw [e3]
            exact DR.put (d5.imp fun v y q => PairAt.mut (u := .dK kvs) q l5 (by intro _ z; cases z)) (PairAt.mut (u := .dK kvs) (hpv.same s34) l5 (by intro _ z; cases z))
        · rintro H4 ⟨s5, kvs, l5, d5⟩
          have e4 : (ents F).take ((srt (F.map (·.1))).map V.str).length = ents F := by
            rw [List.length_map, srt_len, List.length_map]
            exact List.take_of_length_le (by rw [g1]; exact Nat.le_refl _)
          rw [e4] at d5
          exact kQ H4 D (sH3.trans (sp.trans s5)) (Same.free (sH3.trans sp) hD) ⟨kvs, l5, d5⟩
      · exact .inr (.inl ⟨fun z => e0 (List.map_eq_nil_iff.mp z), e1, fun H' dd s hd => kE H' dd (sHn.trans s) hd⟩)
      · exact .inr (.inr (.inl ⟨v1, e1, fun H' dd s hd => kE H' dd (sHn.trans s) hd⟩))
      · exact .inr (.inr (.inr ⟨x, y, r, e1, hle, fun H' dd s hd => kE H' dd (sHn.trans s) hd⟩))
    | @step m' st' f v1 o1 _ _ _ _ hf hst4 hF4 hW4 hR' =>
      obtain ⟨av', x, rfl, hpa3, q, rfl, hq⟩ := paired_snoc_inv hpa2
      have enil : (!(av' ++ [V.ref q]).isEmpty) = true := by cases av' <;> rfl
      rw [enil]
      refine iteT' ⟨fun σ' H' => ∃ st F0 W0, Runs ks m' st F0 W0 F W ∧ Sit H a fd wl ah v σ' H' st F0 W0, fun σ' H' h => ⟨m', Nat.lt_succ_self _, h⟩, ?_⟩
      have ho1 : OddC H v1 o1 := hst0 (f, v1, o1) (by simp)
      -- pop
      have edl : (av' ++ [V.ref q]).dropLast = av' := by simp
      have hpop : (av' ++ [V.ref q])[(av' ++ [V.ref q]).length - 1]? = some (V.ref q) := by simp
      refine ⟨_, rfl, .inl ⟨rfl, _, SqL.of ha2⟩, ah, _, _, rfl, rfl, ha2, hpop, ?_⟩
      rw [edl]
      have hq3 : (upd H2 ah (.lst av')) q = some (.tup [.str f, v1]) := by rw [upd_ne (ne_of hq ha2 (by intro z; cases z))]; exact hq
      refine ⟨q, _, rfl, SqT.of hq3, rfl, _, _, rfl, _, _, rfl, rfl, ?_⟩
      have sH3 : Same H (upd H2 ah (.lst av')) := sHn.mut hah0
      have hf3 : (upd H2 ah (.lst av')) fd = some (.dK fk) := by rw [upd_ne n3]; exact hf2
      have hdf3 : DR (PairAt (upd H2 ah (.lst av'))) fk F0 := hdf2.imp fun v y q => PairAt.mut (u := .lst (av' ++ [V.ref _])) q ha2 (by intro _ z; cases z)
      have hw3 : (upd H2 ah (.lst av')) wl = some (.lst (W0.map (·.1))) := by rw [upd_ne n2]; exact hw2
      have hpa4 : Paired (AhAt (upd H2 ah (.lst av'))) av' st' := L2.Paired.mapP hpa3 fun _ _ q => AhAt.mut (u := .lst (av' ++ [V.ref _])) q ha2 (by intro _ z; cases z)
      have ha3 : (upd H2 ah (.lst av')) ah = some (.lst av') := upd_same
      generalize upd H2 ah (.lst av') = H3 at sH3 hf3 hdf3 hw3 hpa4 ha3
      obtain ⟨ty, t1, t2⟩ := ((ho1.same sH3).or (K := K)).isi
      refine ⟨_, rfl, _, _, _, _, _, rfl, .ty _, t1, t2, _, rfl, ?_⟩
      obtain ⟨dxS, kvS, hS1, hS2, hS3⟩ := hst.same sH3
      -- the last part: from a tree at tr
      have last : ∀ (H4 : Hp) (tr : Addr) (es : List Ent) (W1 : List (V × Option Str)) (D : Ends) (y6 : Option V), Same H H4 → H4 fd = some (.dK fk) → DR (PairAt H4) fk F0 → H4 wl = some (.lst (W1.map (·.1))) → H4 ah = some (.lst av') → Paired (AhAt H4) av' st' → TreeAt K H4 tr es → TreeOk es → es = (entsOf ks o1).getD [] →
          W1 = (if (entsOf ks o1).isSome then W0 else W0 ++ [(v1, o1)]) → D.nx = (fun σ' H' => ∃ st F0 W0, Runs ks m' st F0 W0 F W ∧ Sit H a fd wl ah v σ' H' st F0 W0) →
          tFF K D [some (.ref a), some v, some (.ref fd), some (.ref wl), some (.ref ah), some (.str f), y6, some (.ref tr), x8, x9, x10, x11] H4 := by
        intro H4 tr es W1 D y6 sH4 hf4 hdf4 hw4 ha4 hpa5 htr htok ees eW hD
        refine ff_ok T htr htok hf ha4 hpa5 hst4 hf4 hdf4 hF4 fun y8 y9 y10 H5 avs5 fk5 b5 ha5 hpa6 hf5 hdf5 => ?_
        rw [hD]
        refine ⟨_, _, _, hR', ⟨_, _, _, _, _, _, _, rfl⟩, fun b o hb => b5 _ _ (ne_of_none hb hah0) (ne_of_none hb hfd) (sH4 _ _ hb), ⟨fk5, hf5, ?_⟩, ?_, ⟨avs5, ha5, ?_⟩, ?_, ?_, puts_nodup _ _ _ hnd0, ?_, ?_⟩
        · rw [← ees]; exact hdf5
        · rw [← eW]; exact b5 _ _ n2 n1.symm hw4
        · rw [← ees]; exact hpa6
        · intro x hx
          by_cases c : (entsOf ks o1).isSome
          · rw [if_pos c] at hx; exact hW0 x hx
          · rw [if_neg c] at hx
            rcases List.mem_append.mp hx with hx | hx
            · exact hW0 x hx
            · rw [List.mem_singleton.mp hx]; exact ho1
        · intro x hx
          rcases List.mem_append.mp hx with hx | hx
          · exact hst0 x (List.mem_append_left _ hx)
          · obtain ⟨e, he, hx⟩ := List.mem_filterMap.mp hx
            rw [← ees] at he
            by_cases c : e.2.1 = ("dir" : Str)
            · rw [if_pos c] at hx
              cases hx
              exact ⟨rfl, by rw [idLen (htok.ok e he).id]; decide⟩
            · rw [if_neg c] at hx; cases hx
        · have h1 := puts_len f ((entsOf ks o1).getD []) F0
          rw [← ees] at h1 ⊢
          have := htok.len
          omega
        · by_cases c : (entsOf ks o1).isSome
          · rw [if_pos c]; exact hW00
          · rw [if_neg c, List.length_append]
            show _ + 1 ≤ _
            omega
      -- no tree: an empty one
      have mk : ∀ (D : Ends) (y6 y7 : Option V), (entsOf ks o1) = none → D.nx = (fun σ' H' => ∃ st F0 W0, Runs ks m' st F0 W0 F W ∧ Sit H a fd wl ah v σ' H' st F0 W0) →
          tSeq (tDrop (tBM K "list" rAppend (tVar 3) (tCons (tVar 6) tNil))) (tAsg (tMake (ca K "Tree") (spTInit K) [] E (tCons tDNewK tNil)) (gName 7)) { D with nx := tFF K D } [some (.ref a), some v, some (.ref fd), some (.ref wl), some (.ref ah), some (.str f), some v1, y7, x8, x9, x10, x11] H3 := by
        intro D y6 y7 hno hD
        refine ⟨_, rfl, .inl ⟨rfl, _, SqL.of hw3⟩, _, rfl, wl, _, _, rfl, rfl, hw3, by rw [List.length_map]; exact line_lt (by omega), ?_⟩
        have sw : Same H (upd H3 wl (.lst (W0.map (·.1) ++ [v1]))) := sH3.mut hwl0
        intro ed hed x dxx hx hdx hne
        have s5 : Same (upd H3 wl (.lst (W0.map (·.1) ++ [v1]))) (upd (upd H3 wl (.lst (W0.map (·.1) ++ [v1]))) ed (.dK [])) := Same.new hed
        have s6 : Same (upd (upd H3 wl (.lst (W0.map (·.1) ++ [v1]))) ed (.dK [])) (upd (upd (upd (upd H3 wl (.lst (W0.map (·.1) ++ [v1]))) ed (.dK [])) dxx (.own x)) x (.ins (ca K "Tree") dxx [])) := (Same.new hdx).trans (Same.new (by rw [upd_ne hne.symm]; exact hx))
        refine ⟨x, ed, dxx, [], [], rfl, upd_same, s6 _ _ upd_same, .nil, .nil, fun e he => (by cases he), by decide, fun h => absurd h (by decide), fun _ H6 t rs s7 hx6 ht6 hp6 => ⟨rfl, ?_⟩⟩
        have sW : Same (upd H3 wl (.lst (W0.map (·.1) ++ [v1]))) H6 := fun c o hc6 => s7 c o (ne_of_none (s5 _ _ hc6) hx) (s6 _ _ (s5 _ _ hc6))
        refine last H6 x [] (W0 ++ [(v1, o1)]) D _ (sw.trans sW) (sW _ _ (by rw [upd_ne n1]; exact hf3)) (hdf3.imp fun v y q => (PairAt.mut (u := .lst (W0.map (·.1))) q hw3 (by intro _ z; cases z)).same sW) (by rw [List.map_append]; exact sW _ _ upd_same)
          (sW _ _ (by rw [upd_ne n2.symm]; exact ha3)) (L2.Paired.mapP hpa4 fun _ _ q => (AhAt.mut (u := .lst (W0.map (·.1))) q hw3 (by intro _ z; cases z)).same sW) ⟨dxx, t, rs, hx6, ht6, (ents_nil ▸ hp6)⟩ ⟨.nil, by decide, fun e he => (by cases he)⟩ (by rw [hno]; rfl) (by rw [hno]; rfl) hD
      cases o1 with
      | none =>
        refine iteF ?_
        refine ⟨_, rfl, _, _, _, _, _, rfl, .own _, .base .non, T.iNT, _, rfl, iteT' ?_⟩
        exact mk _ none _ rfl rfl
      | some z =>
        obtain ⟨rfl, hz⟩ := ho1
        refine iteT' ?_
        refine ⟨_, rfl, a, _, dxS, _, .ref kd, rfl, hS1, T.cS, T.nS2, rfl, kd, rfl, .inl ⟨kvS, .inl hS2⟩, _, rfl, _, .inl ⟨kvS, .inr z, .inl hS2, rfl, rfl⟩, ?_⟩
        rcases hS3.val z with ⟨e1, e2⟩ | ⟨vo, th, e1, e2, c, rfl, hth⟩
        · rw [e1]
          refine ⟨_, rfl, _, _, _, _, _, rfl, .own _, .base .non, T.iNT, _, rfl, iteT' ?_⟩
          exact mk _ none _ (by unfold entsOf; simp [e2]) rfl
        · rw [e1]
          cases th with
          | blob =>
            obtain ⟨dy, hb⟩ := hth
            refine ⟨_, rfl, _, _, _, _, _, rfl, .own _, .base (T.tyB _ _ _ _ hb), T.iBT, _, rfl, iteT' ?_⟩
            exact mk _ none _ (by unfold entsOf; simp [e2]) rfl
          | tree es =>
            have hth' := hth
            obtain ⟨dy, tb, rt, hb, _⟩ := hth
            refine ⟨_, rfl, _, _, _, _, _, rfl, .own _, .base (T.tyT _ _ _ _ hb), T.iTT, _, rfl, iteF ?_⟩
            have ee : entsOf ks (some z) = some es := by unfold entsOf; simp [e2]
            exact last H3 c es W0 _ _ sH3 hf3 hdf3 hw3 ha3 hpa4 hth' (hgood _ (valS_some e2)) (by rw [ee]; rfl) (by rw [ee]; rfl) rfl
end
end FK

/-! Forkhaul k08: the law's draws. -/
namespace FK
open PySem PySem.Spec PyProof.Rows L2 TL
open PySem.W (Frag)
section
variable {P : Program} {w : World} {K : Frag} {mg : Str → Option Value} {base : Heap}
def spCellAt (K : Frag) : Sp := fun vs H Q _ => ∃ (a : Addr) (ns : List Int), vs = [.ref a, .int 0] ∧ SqL K H a (ns.map V.int) ∧ ∀ z : Int, Q (.int z) H
abbrev nCellAt : List Str := ["_law_script", "_law_k"]
theorem scCellAt : FnScope nCellAt ["_law_script", "_law_k"] (defScope sCellAt) := ⟨rfl, rfl, rfl, by decide +kernel, rfl, by decide +kernel, by decide +kernel⟩
theorem ok_cellAt (F : GF K mg "_law_cell_at" sCellAt) (B : Fr mg) : Cal P w K mg base CX0 1 "_law_cell_at" ["_law_script", "_law_k"] (spCellAt K) := by
  refine cal0 F scCellAt (fun _ _ _ _ _ _ us hl => match us, hl with | [_, _], _ => rfl) (fun vs H Q E h => ?_) (fun cdv A outer s H vs Q E hr h => ?_)
  · obtain ⟨a, ns, rfl, _⟩ := h
    rfl
  · obtain ⟨a, ns, rfl, hs, k⟩ := h
    refine ⟨_, pss_cons (ps_if (pt_cmpR op_lt (pv 1) (pe_callB call_len_seq (by rfl) B.len boot_len (pa_cons (pv 0) pa_nil)) (nomark _)) (pss_one (ps_ret (pe_ix ix_list (pv 0) (pv 1) (by intro _ _; rfl)))) pss_nil) (pss_one (ps_ret pe_int)), ?_⟩
    refine ⟨_, rfl, _, rfl, a, _, rfl, .inl hs, _, _, rfl, rfl, _, rfl, ?_⟩
    cases ns with
    | nil => exact iteF (k 0)
    | cons z r =>
      refine ite2 (fun _ => ?_) (fun c => absurd (decide_eq_true (by rw [List.map_cons, List.length_cons]; omega)) c)
      exact ⟨_, rfl, _, rfl, a, _, _, V.int z, rfl, rfl, hs, atI_nat (j := 0) rfl, k z⟩
/-! ### wells -/
def WellAt (H : Hp) (w : Addr) (c : Int) : Prop := ∃ w0 w1 w2 : Int, H w = some (.lst [.int w0, .int w1, .int w2]) ∧ 0 ≤ w0 ∧ 0 ≤ w2 ∧ w2 ≤ c
theorem WellAt.same {H H' : Hp} {w : Addr} {c : Int} (s : Same H H') (h : WellAt H w c) : WellAt H' w c := by
  obtain ⟨w0, w1, w2, e, r⟩ := h
  exact ⟨w0, w1, w2, s _ _ e, r⟩
theorem WellAt.mono {H : Hp} {w : Addr} {c d : Int} (h : WellAt H w c) (l : c ≤ d) : WellAt H w d := by
  obtain ⟨w0, w1, w2, e, a, b, r⟩ := h
  exact ⟨w0, w1, w2, e, a, b, Int.le_trans r l⟩
def spWell : Sp := fun vs H Q _ => ∃ c : Int, vs = [.int c] ∧ ∀ H' w, Same H H' → H w = none → WellAt H' w 0 → Q (.ref w) H'
abbrev nWell : List Str := ["_law_cell"]
theorem scWell : FnScope nWell ["_law_cell"] (defScope sWell) := ⟨rfl, rfl, rfl, by decide +kernel, rfl, by decide +kernel, by decide +kernel⟩
theorem ok_well (F : GF K mg "_law_well" sWell) (B : Fr mg) : Cal P w K mg base CX0 1 "_law_well" ["_law_cell"] spWell := by
  refine cal0 F scWell (fun _ _ _ _ _ _ us hl => match us, hl with | [_], _ => rfl) (fun vs H Q E h => ?_) (fun cdv A outer s H vs Q E hr h => ?_)
  · obtain ⟨c, rfl, _⟩ := h
    rfl
  · obtain ⟨c, rfl, k⟩ := h
    refine ⟨_, pss_one (ps_ret (pe_lst (pa_cons (pe_op op_mul (pv 0) (pe_callTy call_int1 (by rfl) B.int (by decide +kernel) (pa_cons (pe_cmpR op_ge (pv 0) (pe_op op_pow pe_int pe_int) (nomark _)) pa_nil))) (pa_cons (pv 0) (pa_cons pe_int pa_nil))))), ?_⟩
    refine ⟨_, rfl, _, rfl, _, _, rfl, rfl, ⟨by decide, by decide, by decide⟩, _, _, rfl, rfl, .inr ⟨_, rfl, _, _, rfl, rfl, .inr ?_, _, rfl, (by show 3 ≤ sizeLine; exact line_of (by decide)), fun p hp => ?_⟩⟩
    · split <;> decide
    · refine k _ p (Same.new hp) hp ⟨_, c, 0, upd_same, ?_, by decide, by decide⟩
      by_cases h : (10 : Int) ^ (18 : Int).toNat ≤ c
      · rw [decide_eq_true h]
        simp only [if_true]
        have : (0 : Int) ≤ 10 ^ (18 : Int).toNat := by decide
        omega
      · rw [decide_eq_false h]
        simp
/-! ### draw -/
def spDraw : Sp := fun vs H Q _ => ∃ (a : Addr) (n c : Int), vs = [.ref a, .int n] ∧ 0 < n ∧ n < 1073741824 ∧ WellAt H a c ∧ 0 ≤ c ∧ c ≤ 1000000000 ∧ ∀ H' r, But a H H' → WellAt H' a (c + 1) → 0 ≤ r → r < n → Q (.int r) H'
abbrev nDraw : List Str := ["_law_well_here", "_law_size", "_law_found", "_law_seed", "_law_mixed"]
theorem scDraw : FnScope nDraw ["_law_well_here", "_law_size"] (defScope sDraw) := ⟨rfl, rfl, rfl, by decide +kernel, rfl, by decide +kernel, by decide +kernel⟩
theorem ok_draw (F : GF K mg "_law_draw" sDraw) (B : Fr mg) : Cal P w K mg base CX0 1 "_law_draw" ["_law_well_here", "_law_size"] spDraw := by
  refine cal0 F scDraw (fun _ _ _ _ _ _ us hl => match us, hl with | [_, _], _ => rfl) (fun vs H Q E h => ?_) (fun cdv A outer s H vs Q E hr h => ?_)
  · obtain ⟨a, n, c, rfl, _⟩ := h
    rfl
  · obtain ⟨a, n, c, rfl, hn, hn2, ⟨w0, w1, w2, hw, hw0, hw2, hwc⟩, hc0, hc, k⟩ := h
    refine ⟨_, pss_cons (ps_if (pt_cmpR op_gt (pe_ix ix_list (pv 0) pe_int (by intro _ _; rfl)) pe_int (nomark _))
        (pss_cons (ps_set (i := 2) scDraw.nd rfl (Or.inl rfl) (pe_op op_mod (pe_callTy call_int1 (by rfl) B.int (by decide +kernel) (pa_cons (pe_ix ix_list (pv 0) pe_int (by intro _ _; rfl)) pa_nil)) (pv 1)))
        (pss_cons (ps_asg (pe_op op_fdivW (pe_ix ix_list (pv 0) pe_int (by intro _ _; rfl)) (pv 1)) (pg_sub (pv 0) pe_int set_list))
        (pss_one (ps_ret (pv 2))))) pss_nil)
      (pss_cons (ps_asg (pe_op op_add (pe_ix ix_list (pv 0) pe_int (by intro _ _; rfl)) pe_int) (pg_sub (pv 0) pe_int set_list))
      (pss_cons (ps_set (i := 3) scDraw.nd rfl (Or.inl rfl) (pe_op op_add (pe_op op_mod (pe_callTy call_int1 (by rfl) B.int (by decide +kernel) (pa_cons (pe_ix ix_list (pv 0) pe_int (by intro _ _; rfl)) pa_nil)) pe_int)
          (pe_op op_mul (pe_op op_mod (pe_callTy call_int1 (by rfl) B.int (by decide +kernel) (pa_cons (pe_op op_fdivW (pe_ix ix_list (pv 0) pe_int (by intro _ _; rfl)) pe_int) pa_nil)) pe_int) pe_int)))
      (pss_cons (ps_set (i := 4) scDraw.nd rfl (Or.inl rfl) (pe_op op_mod (pe_callTy call_int1 (by rfl) B.int (by decide +kernel) (pa_cons (pe_op op_pow (pe_op op_add (pe_op op_add (pv 3) (pe_op op_mul pe_int (pe_ix ix_list (pv 0) pe_int (by intro _ _; rfl)))) pe_int) pe_int) pa_nil)) pe_int))
      (pss_cons (ps_set (i := 4) scDraw.nd rfl (Or.inl rfl) (pe_op op_mod (pe_callTy call_int1 (by rfl) B.int (by decide +kernel) (pa_cons (pe_op op_mul (pv 4) (pe_op op_add (pe_op op_add (pe_op op_fdivW (pv 4) pe_int) pe_int) (pe_ix ix_list (pv 0) pe_int (by intro _ _; rfl)))) pa_nil)) pe_int))
      (pss_one (ps_ret (pe_op op_mod (pe_callTy call_int1 (by rfl) B.int (by decide +kernel) (pa_cons (pe_op op_mod (pe_callTy call_int1 (by rfl) B.int (by decide +kernel) (pa_cons (pe_op op_mul (pv 4) (pe_op op_add (pe_op op_fdivW (pv 4) pe_int) pe_int)) pa_nil)) pe_int) pa_nil)) (pv 1)))))))), ?_⟩
    have hdiv : ∀ (i : Int), CDivW i n := fun i => wide_div (b := 30) hn (by omega) (by decide) (by decide)
    have hdv : ∀ (i j : Int), 0 < j → j.natAbs < 2 ^ 40 → CDivW i j := fun i j h1 h2 => wide_div (b := 40) h1 h2 (by decide) (by decide)
    refine ⟨_, rfl, a, _, _, _, rfl, rfl, SqL.of hw, rfl, _, _, rfl, rfl, _, rfl, ?_⟩
    refine ite2 (fun c1 => ?_) (fun c1 => ?_)
    · refine ⟨_, rfl, a, _, _, _, rfl, rfl, SqL.of hw, rfl, .inl ⟨_, rfl, _, rfl, _, _, rfl, rfl, hn, ?_⟩⟩
      refine ⟨_, rfl, a, _, _, _, rfl, rfl, SqL.of hw, rfl, _, rfl, _, _, rfl, rfl, hdiv _, _, rfl, a, _, _, _, rfl, rfl, hw, rfl, _, rfl, ?_⟩
      exact k _ _ (But.self (Same.refl H)) ⟨w0 / n, w1, w2, upd_same, Int.ediv_nonneg hw0 (Int.le_of_lt hn), hw2, by omega⟩ (Int.emod_nonneg _ (by omega)) (Int.emod_lt_of_pos _ hn)
    · refine ⟨_, rfl, a, _, _, _, rfl, rfl, SqL.of hw, rfl, _, _, rfl, rfl, _, rfl, a, _, _, _, rfl, rfl, hw, rfl, ?_⟩
      have hw1 : (upd H a (.lst [.int w0, .int w1, .int (w2 + 1)])) a = some (.lst [.int w0, .int w1, .int (w2 + 1)]) := upd_same
      show tSeq _ _ _ _ (upd H a (.lst [.int w0, .int w1, .int (w2 + 1)]))
      have a1 := Int.emod_nonneg w1 (show (2147483549 : Int) ≠ 0 by decide)
      have a2 := Int.emod_lt_of_pos w1 (show (0 : Int) < 2147483549 by decide)
      have a3 := Int.emod_nonneg (w1 / 2147483549) (show (80021 : Int) ≠ 0 by decide)
      have a4 := Int.emod_lt_of_pos (w1 / 2147483549) (show (0 : Int) < 80021 by decide)
      refine ⟨_, rfl, a, _, _, _, rfl, rfl, SqL.of hw1, rfl, .inl ⟨_, rfl, _, _, rfl, rfl, (show (0 : Int) < 2147483549 by decide), ?_⟩⟩
      refine ⟨_, rfl, a, _, _, _, rfl, rfl, SqL.of hw1, rfl, _, _, rfl, rfl, hdv _ _ (by decide) (by decide), .inl ⟨_, rfl, _, _, rfl, rfl, (show (0 : Int) < 80021 by decide), _, _, rfl, rfl, .inr ⟨by decide, by decide⟩, _, _, rfl, rfl, ?_⟩⟩
      refine ⟨_, rfl, _, rfl, a, _, _, _, rfl, rfl, SqL.of hw1, rfl, _, _, rfl, rfl, .inl ⟨by decide, by decide⟩, _, _, rfl, rfl, _, _, rfl, rfl, _, _, rfl, rfl, ⟨by decide, by decide, by omega⟩, .inl ⟨_, rfl, _, _, rfl, rfl, (show (0 : Int) < 2147483647 by decide), ?_⟩⟩
      generalize hx : ((w1 % 2147483549 + w1 / 2147483549 % 80021 * 37 + 5843 * (w2 + 1) + 17) ^ (5 : Int).toNat) = x
      have b1 := Int.emod_nonneg x (show (2147483647 : Int) ≠ 0 by decide)
      have b2 := Int.emod_lt_of_pos x (show (0 : Int) < 2147483647 by decide)
      refine ⟨_, rfl, _, rfl, _, _, rfl, rfl, hdv _ _ (by decide) (by decide), _, _, rfl, rfl, _, rfl, a, _, _, _, rfl, rfl, SqL.of hw1, rfl, _, _, rfl, rfl, _, _, rfl, rfl, .inl ⟨by omega, by omega⟩, .inl ⟨_, rfl, _, _, rfl, rfl, (show (0 : Int) < 2147483629 by decide), ?_⟩⟩
      generalize hy : (x % 2147483647 * (x % 2147483647 / 953 + 40993 + (w2 + 1))) = y
      have d1 := Int.emod_nonneg y (show (2147483629 : Int) ≠ 0 by decide)
      have d2 := Int.emod_lt_of_pos y (show (0 : Int) < 2147483629 by decide)
      refine ⟨_, rfl, _, rfl, _, _, rfl, rfl, hdv _ _ (by decide) (by decide), _, _, rfl, rfl, _, _, rfl, rfl, .inl ⟨by omega, by omega⟩, .inl ⟨_, rfl, _, _, rfl, rfl, (show (0 : Int) < 2147483587 by decide), .inl ⟨_, rfl, _, rfl, _, _, rfl, rfl, hn, ?_⟩⟩⟩
      exact k _ _ (But.self (Same.refl H)) ⟨w0, w1, w2 + 1, upd_same, hw0, by omega, by omega⟩ (Int.emod_nonneg _ (by omega)) (Int.emod_lt_of_pos _ hn)
end
end FK

/-! Forkhaul k08: the law's picks, ids, paths. -/
namespace FK
open PySem PySem.Spec PyProof.Rows L2 TL
open PySem.W (Frag)
section
variable {P : Program} {w : World} {K : Frag} {mg : Str → Option Value} {base : Heap}
def spPick : Sp := fun vs H Q _ => ∃ (a l : Addr) (c : Int) (xs : List V), vs = [.ref a, .ref l] ∧ WellAt H a c ∧ 0 ≤ c ∧ c ≤ 1000000000 ∧ H l = some (.lst xs) ∧ l ≠ a ∧ 0 < xs.length ∧ xs.length ≤ 1000 ∧
  ∀ H' (i : Nat) x, But a H H' → WellAt H' a (c + 1) → xs[i]? = some x → Q x H'
abbrev nPick : List Str := ["_law_well_here", "_law_some"]
theorem scPick : FnScope nPick ["_law_well_here", "_law_some"] (defScope sPick) := ⟨rfl, rfl, rfl, by decide +kernel, rfl, by decide +kernel, by decide +kernel⟩
theorem ok_pick (F : GF K mg "_law_pick" sPick) (G : Cal P w K mg base CX0 1 "_law_draw" ["_law_well_here", "_law_size"] spDraw) (B : Fr mg) : Cal P w K mg base CX0 2 "_law_pick" ["_law_well_here", "_law_some"] spPick := by
  refine cal0 F scPick (fun _ _ _ _ _ _ us hl => match us, hl with | [_, _], _ => rfl) (fun vs H Q E h => ?_) (fun cdv A outer s H vs Q E hr h => ?_)
  · obtain ⟨a, l, c, xs, rfl, _⟩ := h
    rfl
  · obtain ⟨a, l, c, xs, rfl, hw, hc0, hc, hl, hne, h0, h1, k⟩ := h
    refine ⟨_, pss_one (ps_ret (pe_ix ix_list (pv 1) (pcal G hr (by rfl) pass0 (pa_cons (pv 0) (pa_cons (pe_callB call_len_seq (by rfl) B.len boot_len (pa_cons (pv 1) pa_nil)) pa_nil))) (by intro _ _; rfl))), ?_⟩
    refine ⟨_, rfl, _, rfl, _, rfl, l, xs, rfl, .inl (SqL.of hl), a, _, c, rfl, by omega, by omega, hw, hc0, hc, fun H' r b hw' hr0 hr1 => ?_⟩
    obtain ⟨i, rfl⟩ := Int.eq_ofNat_of_zero_le hr0
    have hi : i < xs.length := by omega
    have hx : xs[i]? = some xs[i] := List.getElem?_eq_getElem hi
    exact ⟨l, xs, _, _, rfl, rfl, SqL.of (b _ _ hne hl), atI_nat hx, k H' i _ b hw' hx⟩
/-! ### ids -/
def spSigns : Sp := fun vs H Q _ => ∃ (a : Addr) (c : Int), vs = [.ref a, .str cHex, .int 16, .int 16] ∧ WellAt H a c ∧ 0 ≤ c ∧ c ≤ 900000000 ∧ ∀ H' z, But a H H' → WellAt H' a (c + 17) → isIdS z = true → Q (.str z) H'
abbrev nSigns : List Str := ["_law_well_here", "_law_signs_here", "_law_least", "_law_most", "_law_k"]
theorem scSigns : FnScope nSigns ["_law_well_here", "_law_signs_here", "_law_least", "_law_most"] (defScope sSigns) := ⟨rfl, rfl, rfl, by decide +kernel, rfl, by decide +kernel, by decide +kernel⟩
theorem But.mut {a D : Addr} {H H1 : Hp} {o : HO} (b : But a H H1) (s : H D = none) : But a H (upd H1 D o) := fun c u n e => by
  rw [upd_ne (ne_of_none e s)]
  exact b _ _ n e
theorem ok_signs (F : GF K mg "_law_signs" sSigns) (G : Cal P w K mg base CX0 1 "_law_draw" ["_law_well_here", "_law_size"] spDraw) (B : Fr mg) : Cal P w K mg base CX0 2 "_law_signs" ["_law_well_here", "_law_signs_here", "_law_least", "_law_most"] spSigns := by
  refine cal0 F scSigns (fun _ _ _ _ _ _ us hl => match us, hl with | [_, _, _, _], _ => rfl) (fun vs H Q E h => ?_) (fun cdv A outer s H vs Q E hr h => ?_)
  · obtain ⟨a, c, rfl, _⟩ := h
    rfl
  · obtain ⟨a, c, rfl, hw, hc0, hc, k⟩ := h
    refine ⟨_, pss_one (ps_ret (pe_join pe_str (pe_lc (own := [("_law_k", 4)]) (g := gName 4) (tt := tYes) rfl scSigns.nd (pi_range1 (by rfl) B.range (pa_cons (pe_op op_add (pv 2) (pcal G hr (by rfl) pass0 (pa_cons (pv 0) (pa_cons (pe_op op_add (pe_op op_sub (pv 3) (pv 2)) pe_int) pa_nil)))) pa_nil)) (blkOk_by (N := nSigns) (sc := defScope sSigns) (by decide +kernel))
      (fun _ _ _ _ _ => pg_name (i := 4) scSigns.nd rfl (Or.inl rfl)) (fun _ _ _ _ _ => pts_nil) (fun _ _ _ _ _ => pe_ix ix_str (pv 1) (pcal G hr (by rfl) pass0 (pa_cons (pv 0) (pa_cons (pe_callB call_len_str (by rfl) B.len boot_len (pa_cons (pv 1) pa_nil)) pa_nil))) (by intro _ _; rfl))))), ?_⟩
    refine ⟨⟨_, rfl⟩, _, rfl, _, rfl, _, rfl, _, rfl, _, _, rfl, rfl, _, _, rfl, rfl, a, _, c, rfl, (by decide), (by decide), hw, hc0, by omega, fun H1 r b1 hw1 hr0 hr1 => ?_⟩
    obtain rfl : r = 0 := by
      have : r < 1 := hr1
      omega
    refine ⟨_, _, rfl, rfl, _, rfl, (by decide), (by decide), fun D hD => ?_⟩
    have nDa : D ≠ a := fun z => by
      obtain ⟨_, _, _, e, _⟩ := hw1
      rw [z, e] at hD
      cases hD
    have nD : H D = none := by
      cases e : H D with
      | none => rfl
      | some o => rw [b1 _ _ nDa e] at hD; cases hD
    refine lc_range (lo := 0) (n := 16) (fun i H' => But a H H' ∧ WellAt H' a (c + 1 + i) ∧ ∃ zs : List Nat, zs.length = i ∧ (∀ z ∈ zs, z ∈ cHex.cps.toList) ∧ H' D = some (.lst (zs.map fun z => V.str ⟨#[z]⟩))) ?_ ?_ ?_
    · refine ⟨b1.mut nD, ?_, [], rfl, (fun z hz => (by cases hz)), upd_same⟩
      obtain ⟨w0, w1, w2, e, q⟩ := hw1
      exact ⟨w0, w1, w2, by rw [upd_ne nDa.symm]; exact e, q.1, q.2.1, by simpa using q.2.2⟩
    · rintro i H2 hi ⟨b2, hw2, zs, hz1, hz2, hz3⟩
      have hcx : cHex.length = 16 := by decide +kernel
      refine ⟨rfl, _, rfl, _, rfl, _, rfl, cHex, rfl, line_of (by rw [hcx]; decide), a, _, _, rfl, by rw [hcx]; decide, by rw [hcx]; decide, hw2, by omega, by omega, fun H3 r b3 hw3 hr0 hr1 => ?_⟩
      rw [hcx] at hr1
      obtain ⟨j, rfl⟩ := Int.eq_ofNat_of_zero_le hr0
      have hj : j < cHex.cps.toList.length := by
        have : cHex.cps.toList.length = 16 := by decide +kernel
        omega
      have hx : cHex.cps.toList[j]? = some cHex.cps.toList[j] := List.getElem?_eq_getElem hj
      have hz4 := b3 _ _ nDa hz3
      refine ⟨cHex, _, _, rfl, rfl, line_of (by rw [hcx]; decide), atI_nat hx, _, hz4, ?_, ?_, ?_, zs ++ [cHex.cps.toList[j]], by rw [List.length_append, hz1]; rfl, ?_, by rw [upd_same, List.map_append]; rfl⟩
      · rw [List.length_map, hz1]
        exact line_lt (by omega)
      · exact (b2.trans b3).mut nD
      · obtain ⟨w0, w1, w2, e, q⟩ := hw3
        exact ⟨w0, w1, w2, by rw [upd_ne nDa.symm]; exact e, q.1, q.2.1, by have := q.2.2; push_cast; omega⟩
      · intro z hz
        rcases List.mem_append.mp hz with hz | hz
        · exact hz2 z hz
        · rw [List.mem_singleton.mp hz]
          exact List.getElem_mem hj
    · rintro H2 ⟨b2, hw2, zs, hz1, hz2, hz3⟩
      have ezs : (zs.map fun z => V.str ⟨#[z]⟩) = (zs.map fun z => (⟨#[z]⟩ : Str)).map V.str := by rw [List.map_map]; rfl
      rw [ezs] at hz3
      have hjo : (Txt.join "" (zs.map fun z => (⟨#[z]⟩ : Str))).cps.toList = zs := by
        rw [join0, List.flatMap_map]
        clear hz3 ezs hz1 hz2
        induction zs with
        | nil => rfl
        | cons x r ih => rw [List.flatMap_cons, ih]; rfl
      refine ⟨_, D, _, rfl, rfl, .inl (SqL.of hz3), ?_, k _ _ b2 (hw2.mono (by omega)) ?_⟩
      · have h1 := sum_le (l := (zs.map fun z => (⟨#[z]⟩ : Str)).map (·.length)) (b := 1) (fun x hx => by
          obtain ⟨y, hy, rfl⟩ := List.mem_map.mp hx
          obtain ⟨z, hz, rfl⟩ := List.mem_map.mp hy
          exact Nat.le_refl _)
        have e4 : (Str.ofString "").length = 0 := by decide +kernel
        rw [e4]
        rw [List.length_map, List.length_map, hz1] at h1
        omega
      · unfold isIdS hasOnly
        rw [hjo, Bool.and_eq_true]
        refine ⟨decide_eq_true ?_, List.all_eq_true.mpr fun z hz => decide_eq_true (hz2 z hz)⟩
        show (Txt.join "" (zs.map fun z => (⟨#[z]⟩ : Str))).cps.size = 16
        rw [← Array.length_toList, hjo, hz1]
def spLid : Sp := fun vs H Q _ => ∃ (a : Addr) (c : Int), vs = [.ref a] ∧ WellAt H a c ∧ 0 ≤ c ∧ c ≤ 900000000 ∧ ∀ H' z, But a H H' → WellAt H' a (c + 17) → isIdS z = true → Q (.str z) H'
abbrev nLid : List Str := ["_law_well_here"]
theorem scLid : FnScope nLid ["_law_well_here"] (defScope sLid) := ⟨rfl, rfl, rfl, by decide +kernel, rfl, by decide +kernel, by decide +kernel⟩
theorem ok_lid (F : GF K mg "_law_id" sLid) (G : Cal P w K mg base CX0 2 "_law_signs" ["_law_well_here", "_law_signs_here", "_law_least", "_law_most"] spSigns) : Cal P w K mg base CX0 3 "_law_id" ["_law_well_here"] spLid := by
  refine cal0 F scLid (fun _ _ _ _ _ _ us hl => match us, hl with | [_], _ => rfl) (fun vs H Q E h => ?_) (fun cdv A outer s H vs Q E hr h => ?_)
  · obtain ⟨a, c, rfl, _⟩ := h
    rfl
  · obtain ⟨a, c, rfl, hw, hc0, hc, k⟩ := h
    refine ⟨_, pss_one (ps_ret (pcal G hr (by rfl) pass0 (pa_cons (pv 0) (pa_cons pe_str (pa_cons pe_int (pa_cons pe_int pa_nil)))))), ?_⟩
    exact ⟨_, rfl, a, c, rfl, hw, hc0, hc, k⟩
/-! ### paths -/
def alph4 : List Str := ["a", "b", "c", "d.x"]
def spSmall : Sp := fun vs H Q _ => ∃ (a : Addr) (c : Int), vs = [.ref a, .int 3] ∧ WellAt H a c ∧ 0 ≤ c ∧ c ≤ 900000000 ∧ ∀ H' sg, But a H H' → WellAt H' a (c + 4) → sg ≠ [] → sg.length ≤ 3 → (∀ s ∈ sg, s ∈ alph4) → Q (.str (jn sg)) H'
abbrev nSmall : List Str := ["_law_well_here", "_law_size", "_law_k"]
theorem scSmall : FnScope nSmall ["_law_well_here", "_law_size"] (defScope sSmall) := ⟨rfl, rfl, rfl, by decide +kernel, rfl, by decide +kernel, by decide +kernel⟩
theorem ok_small (F : GF K mg "_law_small_path" sSmall) (GD : Cal P w K mg base CX0 1 "_law_draw" ["_law_well_here", "_law_size"] spDraw) (GP : Cal P w K mg base CX0 2 "_law_pick" ["_law_well_here", "_law_some"] spPick) (B : Fr mg) : Cal P w K mg base CX0 3 "_law_small_path" ["_law_well_here", "_law_size"] spSmall := by
  refine cal0 F scSmall (fun _ _ _ _ _ _ us hl => match us, hl with | [_, _], _ => rfl) (fun vs H Q E h => ?_) (fun cdv A outer s H vs Q E hr h => ?_)
  · obtain ⟨a, c, rfl, _⟩ := h
    rfl
  · obtain ⟨a, c, rfl, hw, hc0, hc, k⟩ := h
    refine ⟨_, pss_one (ps_ret (pe_join pe_str (pe_lc (own := [("_law_k", 2)]) (g := gName 2) (tt := tYes) rfl scSmall.nd (pi_range1 (by rfl) B.range (pa_cons (pe_op op_add pe_int (pcal (GD.mono (by decide : 1 ≤ 2)) hr (by rfl) pass0 (pa_cons (pv 0) (pa_cons (pv 1) pa_nil)))) pa_nil)) (blkOk_by (N := nSmall) (sc := defScope sSmall) (by decide +kernel))
      (fun _ _ _ _ _ => pg_name (i := 2) scSmall.nd rfl (Or.inl rfl)) (fun _ _ _ _ _ => pts_nil) (fun _ _ _ _ _ => pcal GP hr (by rfl) pass0 (pa_cons (pv 0) (pa_cons (pe_lst (pa_cons pe_str (pa_cons pe_str (pa_cons pe_str (pa_cons pe_str pa_nil))))) pa_nil)))))), ?_⟩
    refine ⟨⟨_, rfl⟩, _, rfl, _, rfl, a, _, c, rfl, (by decide), (by decide), hw, hc0, by omega, fun H1 r b1 hw1 hr0 hr1 => ?_⟩
    refine ⟨_, _, rfl, rfl, _, rfl, by omega, by omega, fun D hD => ?_⟩
    have nDa : D ≠ a := fun z => by
      obtain ⟨_, _, _, e, _⟩ := hw1
      rw [z, e] at hD
      cases hD
    have nD : H D = none := by
      cases e : H D with
      | none => rfl
      | some o => rw [b1 _ _ nDa e] at hD; cases hD
    have hn1 : (1 + r).toNat ≤ 3 := by omega
    have hn0 : 1 ≤ (1 + r).toNat := by omega
    refine lc_range (lo := 0) (n := (1 + r).toNat) (fun i H' => But a H H' ∧ WellAt H' a (c + 1 + i) ∧ ∃ zs : List Str, zs.length = i ∧ (∀ z ∈ zs, z ∈ alph4) ∧ H' D = some (.lst (zs.map V.str))) ?_ ?_ ?_
    · refine ⟨b1.mut nD, ?_, [], rfl, (fun z hz => (by cases hz)), upd_same⟩
      obtain ⟨w0, w1, w2, e, q⟩ := hw1
      exact ⟨w0, w1, w2, by rw [upd_ne nDa.symm]; exact e, q.1, q.2.1, by simpa using q.2.2⟩
    · rintro i H2 hi ⟨b2, hw2, zs, hz1, hz2, hz3⟩
      refine ⟨rfl, _, rfl, (by show 4 ≤ sizeLine; exact line_of (by decide)), fun l hl => ?_⟩
      have sl : Same H2 (upd H2 l (.lst [.str "a", .str "b", .str "c", .str "d.x"])) := Same.new hl
      have nla : l ≠ a := fun z => by
        obtain ⟨_, _, _, e, _⟩ := hw2
        rw [z, e] at hl
        cases hl
      have nlH : H l = none := by
        cases e : H l with
        | none => rfl
        | some o => rw [b2 _ _ nla e] at hl; cases hl
      refine ⟨a, l, _, _, rfl, hw2.same sl, by omega, by omega, upd_same, nla, by decide, by decide, fun H3 j x b3 hw3 hx => ?_⟩
      obtain ⟨z, hz, rfl⟩ : ∃ z, z ∈ alph4 ∧ x = V.str z := by
        have e : [V.str "a", V.str "b", V.str "c", V.str "d.x"] = alph4.map V.str := rfl
        rw [e, List.getElem?_map] at hx
        cases c : alph4[j]? with
        | none => rw [c] at hx; cases hx
        | some z => rw [c] at hx; exact ⟨z, List.mem_of_getElem? c, (Option.some.inj hx).symm⟩
      have hz4 := b3 _ _ nDa (sl _ _ hz3)
      refine ⟨_, hz4, ?_, ?_, ?_, zs ++ [z], by rw [List.length_append, hz1]; rfl, ?_, by rw [upd_same, List.map_append]; rfl⟩
      · rw [List.length_map, hz1]
        exact line_lt (by omega)
      · exact But.mut (But.trans (b2.mut nlH) b3) nD
      · obtain ⟨w0, w1, w2, e, q⟩ := hw3
        exact ⟨w0, w1, w2, by rw [upd_ne nDa.symm]; exact e, q.1, q.2.1, by have := q.2.2; push_cast; omega⟩
      · intro y hy
        rcases List.mem_append.mp hy with hy | hy
        · exact hz2 y hy
        · rw [List.mem_singleton.mp hy]; exact hz
    · rintro H2 ⟨b2, hw2, zs, hz1, hz2, hz3⟩
      refine ⟨_, D, zs, rfl, rfl, .inl (SqL.of hz3), ?_, k _ zs b2 (hw2.mono (by omega)) (fun e => by rw [e] at hz1; simp at hz1; omega) (by omega) hz2⟩
      have h1 := sum_le (l := zs.map (·.length)) (b := 3) (fun x hx => by
        obtain ⟨y, hy, rfl⟩ := List.mem_map.mp hx
        have : ∀ s ∈ alph4, s.length ≤ 3 := by decide +kernel
        exact this y (hz2 y hy))
      have e4 : (Str.ofString "/").length = 1 := by decide +kernel
      rw [e4]
      rw [List.length_map, hz1] at h1
      omega
end
end FK

/-! Forkhaul k08: the law's files. -/
namespace L2
open PySem PySem.Spec PyProof.Rows
/-- xs == [] -/
def rEqNil (K : PySem.W.Frag) : R2 := fun x y H Q => ∃ a b xs, x = .ref a ∧ y = .ref b ∧ SqL K H a xs ∧ SqL K H b [] ∧ Q (.bl xs.isEmpty) H
theorem op_eqNil {X : Cx} (hu : X.A.units < cLine) : OpR X (compareOp .Eq) (rEqNil X.K) := by
  intro pins s σ H x y v u Q I rx ry h
  obtain ⟨a, b, xs, rfl, rfl, h1, h2, q⟩ := h
  cases rx
  cases ry
  obtain ⟨its, r1, l1, _⟩ := I.list h1
  obtain ⟨its2, r2, l2, _⟩ := I.list h2
  cases r2
  have hlen := r1.length
  cases xs with
  | nil =>
    cases r1
    refine SeqAt.RcAt.lists (e := fun _ => true) l1.isList l2.isList rfl hu (fun j h1 _ => ?_) _ _ _ _ ⟨.bl true, H, I, rfl, q⟩
    exact absurd h1 (by simp)
  | cons x r =>
    refine SeqAt.RcAt.lists_lengths l1.isList l2.isList ?_ hu _ _ _ _ ⟨.bl false, H, I, rfl, q⟩
    cases r1
    rfl
end L2
namespace FK
open PySem PySem.Spec PyProof.Rows L2 TL
open PySem.W (Frag)
/-! ### files, the mathematics -/
abbrev Fls := List (Str × (Str × Str))
def nearB (p z : Str) : Bool := Txt.startswith z (p ++ ("/" : Str)) || Txt.startswith p (z ++ ("/" : Str))
structure LFiles (A : List Str) (m : Nat) (fs : Fls) : Prop where
  nd : (fs.map (·.1)).Nodup
  seg : ∀ f ∈ fs, ∃ sg, f.1 = jn sg ∧ sg ≠ [] ∧ sg.length ≤ m ∧ ∀ s ∈ sg, s ∈ A
  pre : ∀ f ∈ fs, ∀ g ∈ fs, Txt.startswith g.1 (f.1 ++ ("/" : Str)) = false
  val : ∀ f ∈ fs, valueOk f.2 = true
theorem sw_self (p : Str) : Txt.startswith p (p ++ ("/" : Str)) = false := by
  cases h : Txt.startswith p (p ++ ("/" : Str)) with
  | false => rfl
  | true =>
    obtain ⟨r, e⟩ := (startswith_iff _ _).mp h
    have := congrArg List.length e
    rw [tl_append, tl_slash] at this
    simp at this
theorem LFiles.nil {A : List Str} {m : Nat} : LFiles A m [] := ⟨.nil, fun f hf => (by cases hf), fun f hf => (by cases hf), fun f hf => (by cases hf)⟩
theorem LFiles.put {A : List Str} {m : Nat} {fs : Fls} (h : LFiles A m fs) {sg : List Str} (h1 : sg ≠ []) (h2 : sg.length ≤ m) (h3 : ∀ s ∈ sg, s ∈ A) (hn : ∀ f ∈ fs, nearB (jn sg) f.1 = false) {v : Str × Str} (hv : valueOk v = true) : LFiles A m (putS fs (jn sg) v) := by
  refine ⟨putS_nodup h.nd, fun f hf => ?_, fun f hf g hg => ?_, fun f hf => ?_⟩
  · rcases putS_mem hf with rfl | hf
    · exact ⟨sg, rfl, h1, h2, h3⟩
    · exact h.seg f hf
  · have hb : ∀ f ∈ fs, Txt.startswith f.1 (jn sg ++ ("/" : Str)) = false ∧ Txt.startswith (jn sg) (f.1 ++ ("/" : Str)) = false := fun f hf => by
      have := hn f hf
      unfold nearB at this
      rw [Bool.or_eq_false_iff] at this
      exact this
    rcases putS_mem hf with rfl | hf
    · rcases putS_mem hg with rfl | hg
      · exact sw_self _
      · exact (hb g hg).1
    · rcases putS_mem hg with rfl | hg
      · exact (hb f hf).2
      · exact h.pre f hf g hg
  · rcases putS_mem hf with rfl | hf
    · exact hv
    · exact h.val f hf
theorem PairAt.butO {kd : Addr} {H H' : Hp} {v : V} {p : Str × Str} {u : HO} (h : PairAt H v p) (hk : H kd = some u) (hu : ∀ xs, u ≠ .tup xs) (s : But kd H H') : PairAt H' v p := by
  obtain ⟨q, e, hq⟩ := h
  exact ⟨q, e, s _ _ (ne_of hq hk (hu _).symm) hq⟩
theorem WellAt.lst {H : Hp} {a : Addr} {c : Int} (h : WellAt H a c) : ∃ xs, H a = some (.lst xs) := by
  obtain ⟨w0, w1, w2, e, _⟩ := h
  exact ⟨_, e⟩
theorem WellAt.upd {H : Hp} {a d : Addr} {c : Int} {o : HO} (h : WellAt H a c) (n : d ≠ a) : WellAt (upd H d o) a c := by
  obtain ⟨w0, w1, w2, e, q⟩ := h
  exact ⟨w0, w1, w2, by rw [upd_ne n.symm]; exact e, q⟩
theorem But.none {a d : Addr} {H H' : Hp} (b : But a H H') (n : d ≠ a) (h : H' d = none) : H d = none := by
  cases e : H d with
  | none => rfl
  | some o => rw [b _ _ n e] at h; cases h
theorem jn_len {b : Nat} : ∀ sg : List Str, (∀ s ∈ sg, s.length ≤ b) → (jn sg).length ≤ (b + 1) * sg.length
  | [], _ => by
    have : (jn []).length = 0 := by decide +kernel
    rw [this]
    exact Nat.zero_le _
  | [s], h => by
    rw [jn_one]
    have := h s List.mem_cons_self
    simp
    omega
  | s :: t :: l, h => by
    have e1 : (Str.ofString "/").length = 1 := by decide +kernel
    have ih := jn_len (t :: l) fun x hx => h x (List.mem_cons_of_mem _ hx)
    have h1 := h s List.mem_cons_self
    rw [jn_cons (by simp), len_app, len_app, e1]
    have : (b + 1) * (s :: t :: l).length = (b + 1) * (t :: l).length + (b + 1) := by rw [List.length_cons, Nat.mul_add, Nat.mul_one]
    omega
theorem alph4_len : ∀ s ∈ alph4, s.length ≤ 3 := by decide +kernel
theorem LFiles.len4 {m : Nat} {fs : Fls} (h : LFiles alph4 m fs) {f : Str × (Str × Str)} (hf : f ∈ fs) : f.1.length ≤ 4 * m := by
  obtain ⟨sg, e, _, h2, h3⟩ := h.seg f hf
  rw [e]
  have := jn_len sg fun s hs => alph4_len s (h3 s hs)
  omega
section
variable {P : Program} {w : World} {K : Frag} {mg : Str → Option Value} {base : Heap}
def spLFiles : Sp := fun vs H Q _ => ∃ (a il : Addr) (c : Int) (ids : List Str), vs = [.ref a, .int 20, .ref il] ∧ WellAt H a c ∧ 0 ≤ c ∧ c ≤ 800000000 ∧ H il = some (.lst (ids.map V.str)) ∧ il ≠ a ∧ 0 < ids.length ∧ ids.length ≤ 10 ∧ (∀ i ∈ ids, isIdS i = true) ∧
  ∀ H' d fs, But a H H' → WellAt H' a (c + 200) → H d = none → FdAt H' d fs → LFiles alph4 3 fs → fs.length ≤ 20 → Q (.ref d) H'
abbrev nLFiles : List Str := ["_law_well_here", "_law_most", "_law_ids", "_law_found", "_law_k", "_law_path_here", "_law_near", "_law_one"]
theorem scLFiles : FnScope nLFiles ["_law_well_here", "_law_most", "_law_ids"] (defScope sFilesL) := ⟨rfl, rfl, rfl, by decide +kernel, rfl, by decide +kernel, by decide +kernel⟩
theorem ok_lfiles (F : GF K mg "_law_files" sFilesL) (GD : Cal P w K mg base CX0 1 "_law_draw" ["_law_well_here", "_law_size"] spDraw) (GP : Cal P w K mg base CX0 2 "_law_pick" ["_law_well_here", "_law_some"] spPick)
    (GS : Cal P w K mg base CX0 3 "_law_small_path" ["_law_well_here", "_law_size"] spSmall) (B : Fr mg) : Cal P w K mg base CX0 4 "_law_files" ["_law_well_here", "_law_most", "_law_ids"] spLFiles := by
  refine cal0 F scLFiles (fun _ _ _ _ _ _ us hl => match us, hl with | [_, _, _], _ => rfl) (fun vs H Q E h => ?_) (fun cdv A outer s H vs Q E hr h => ?_)
  · obtain ⟨a, il, c, ids, rfl, _⟩ := h
    rfl
  · obtain ⟨a, il, c, ids, rfl, hw, hc0, hc, hil, hne, hi0, hi1, hid, k⟩ := h
    refine ⟨_, pss_cons (ps_set (i := 3) scLFiles.nd rfl (Or.inl rfl) pe_dnewK)
      (pss_cons (ps_for (g := gName 4) PassesOwn.never rfl (pi_range1 (by rfl) B.range (pa_cons (pcal (GD.mono (by decide : 1 ≤ 3)) hr (by rfl) pass0 (pa_cons (pv 0) (pa_cons (pe_op op_add (pv 1) pe_int) pa_nil))) pa_nil)) (pg_name (i := 4) scLFiles.nd rfl (Or.inl rfl))
        (pss_cons (ps_set (i := 5) scLFiles.nd rfl (Or.inr rfl) (pcal GS hr (by rfl) pass0 (pa_cons (pv 0) (pa_cons pe_int pa_nil))))
        (pss_cons (ps_lock (ps_setLc (i := 6) (own := [("_law_one", 7)]) (g := gName 7) rfl scLFiles.nd rfl rfl (sw_true rfl rfl rfl rfl) (pi_keys (pv 3)) (blkOk_by (N := nLFiles) (sc := defScope sFilesL) (by decide +kernel)) (fun _ _ _ _ _ => pg_name (i := 7) scLFiles.nd rfl (Or.inl rfl))
            (fun _ _ _ _ _ => pts_one (PW.pt (pw_or (pt_val (pe_m1 PySem.F.slot_str_startswith PySem.F.type_str_startswith mt_startswith (pv 7) (pe_op op_add_str (pv 5) pe_str))) (pw_or1 (pt_val (pe_m1 PySem.F.slot_str_startswith PySem.F.type_str_startswith mt_startswith (pv 5) (pe_op op_add_str (pv 7) pe_str))))))) (fun _ _ _ _ _ => pv 7)))
        (pss_one (ps_if (pt_cmpR (op_eqNil hr.units0) (pv 6) (pe_lst pa_nil) rfl)
          (pss_one (ps_dput (hu_of hr) (pv 3) (pv 5) (pe_tup (pa_cons (pcal (GP.mono (by decide : 2 ≤ 3)) hr (by rfl) pass0 (pa_cons (pv 0) (pa_cons (pe_lst (pa_cons pe_str (pa_cons pe_str (pa_cons pe_str pa_nil)))) pa_nil))) (pa_cons (pcal (GP.mono (by decide : 2 ≤ 3)) hr (by rfl) pass0 (pa_cons (pv 0) (pa_cons (pv 2) pa_nil))) pa_nil))) (by rfl))) pss_nil)))))
      (pss_one (ps_ret (pv 3)))), ?_⟩
    intro d hd
    obtain ⟨wl0, hwl⟩ := hw.lst
    have nda : d ≠ a := fun z => by rw [z, hwl] at hd; cases hd
    have s1 : Same H (upd H d (.dK [])) := Same.new hd
    have hw1 : WellAt (upd H d (.dK [])) a c := hw.same s1
    refine ⟨_, rfl, _, rfl, _, _, rfl, rfl, a, _, c, rfl, (by decide), (by decide), hw1, hc0, by omega, fun H2 r b2 hw2 hr0 hr1 => ?_⟩
    have hr21 : r.toNat ≤ 20 := by omega
    refine ⟨_, rfl, by omega, by omega, for_of (n := r.toNat) (fun i σ H' => (∃ x4 x5 x6 x7, σ = [some (.ref a), some (.int 20), some (.ref il), some (.ref d), x4, x5, x6, x7]) ∧ But a H H' ∧ WellAt H' a (c + 1 + 6 * i) ∧ ∃ kvs fs, H' d = some (.dK kvs) ∧ DR (PairAt H') kvs fs ∧ LFiles alph4 3 fs ∧ fs.length ≤ i) ?_ ?_ ?_ ?_ ?_⟩
    · exact ⟨⟨_, _, _, _, rfl⟩, fun b o n e => b2 _ _ n (s1 _ _ e), by simpa using hw2, [], [], b2 _ _ nda upd_same, .nil, LFiles.nil, Nat.le_refl _⟩
    · exact fun i σ H' hi _ => hi
    · exact fun σ H' _ => Nat.le_refl _
    · rintro i x σ H3 H4 hi ⟨⟨x4, x5, x6, x7, rfl⟩, b3, hw3, kvs, fs, hd3, dr3, lf3, hl3⟩ ⟨rfl, rfl⟩
      refine ⟨_, rfl, a, _, rfl, hw3, by omega, by omega, fun H5 sg b5 hw5 g1 g2 g3 => ?_⟩
      obtain ⟨wl3, hwl3⟩ := hw3.lst
      have hd5 := b5 _ _ nda hd3
      have dr5 : DR (PairAt H5) kvs fs := dr3.imp fun v p q => q.butO hwl3 (by intro _ z; cases z) b5
      have hsgl := jn_len sg fun s hs => alph4_len s (g3 s hs)
      refine ⟨d, .dK kvs, hd5, trivial, fun od => ?_⟩
      refine ⟨_, rfl, d, od, rfl, .inl ⟨kvs, upd_same, fun D hD => lc_of (n := kvs.length) (fun j H' => Same (upd H5 d (.frz od (.dK kvs))) H' ∧ H' D = some (.lst ((((fs.take j).map (·.1)).filter (nearB (jn sg))).map V.str)))
        ⟨Same.new hD, upd_same⟩ (fun j H' hj q => ⟨q.1 _ _ upd_same, hj⟩) (fun H' q => ⟨q.1 _ _ upd_same, Nat.le_refl _⟩) ?_ ?_⟩⟩
      · rintro j y H6 H7 hj ⟨s6, l6⟩ ⟨rfl, kk, v, hkv, rfl⟩
        obtain ⟨f, hf, rfl, _⟩ := dr5.get hkv
        have hfl := lf3.len4 (List.mem_of_getElem? hf)
        have e1 : (Str.ofString "/").length = 1 := by decide +kernel
        refine ⟨rfl, _, rfl, ⟨_, rfl⟩, _, rfl, _, _, rfl, rfl, line_of (by rw [e1]; omega), _, _, rfl, rfl, _, rfl, ?_⟩
        have htk : ((fs.take (j + 1)).map (·.1)).filter (nearB (jn sg)) = ((fs.take j).map (·.1)).filter (nearB (jn sg)) ++ (if nearB (jn sg) f.1 = true then [f.1] else []) := by
          rw [List.take_add_one, hf, List.map_append, List.filter_append]
          congr 1
          show List.filter _ [f.1] = _
          cases c : nearB (jn sg) f.1 <;> simp [c]
        have hll : ((((fs.take j).map (·.1)).filter (nearB (jn sg))).map V.str).length < sizeLine := by
          rw [List.length_map]
          refine line_lt (Nat.le_trans (List.length_filter_le _ _) ?_)
          rw [List.length_map]
          have := List.length_take_le' j fs
          omega
        have yes : nearB (jn sg) f.1 = true → ∃ acc, H7 D = some (.lst acc) ∧ acc.length < sizeLine ∧ Same (upd H5 d (.frz od (.dK kvs))) (upd H7 D (.lst (acc ++ [V.str f.1]))) ∧ (upd H7 D (.lst (acc ++ [V.str f.1]))) D = some (.lst ((((fs.take (j + 1)).map (·.1)).filter (nearB (jn sg))).map V.str)) := fun hy => by
          refine ⟨_, l6, hll, s6.mut hD, ?_⟩
          rw [upd_same, htk, if_pos hy, List.map_append]
          rfl
        cases c1 : Txt.startswith f.1 (jn sg ++ ("/" : Str)) with
        | true =>
          refine iteT' ?_
          exact ⟨_, rfl, yes (by unfold nearB; rw [c1]; rfl)⟩
        | false =>
          refine iteF ?_
          refine ⟨_, rfl, ⟨_, rfl⟩, _, rfl, _, _, rfl, rfl, line_of (by rw [e1]; omega), _, _, rfl, rfl, _, rfl, ?_⟩
          cases c2 : Txt.startswith (jn sg) (f.1 ++ ("/" : Str)) with
          | true =>
            refine iteT' ?_
            exact ⟨_, rfl, yes (by unfold nearB; rw [c1, c2]; rfl)⟩
          | false =>
            refine iteF ?_
            refine ⟨s6, ?_⟩
            rw [htk, if_neg (by unfold nearB; rw [c1, c2]; simp), List.append_nil]
            exact l6
      rintro H6 ⟨s6, l6⟩
      refine ⟨s6 _ _ upd_same, ?_⟩
      have ek : fs.take kvs.length = fs := List.take_of_length_le (by rw [dr5.len]; exact Nat.le_refl _)
      rw [ek] at l6
      have sU : Same H5 (upd H6 d (.dK kvs)) := Same.unlock hd5 s6
      have nDd : D ≠ d := fun z => by rw [z, upd_same] at hD; cases hD
      have lD : (upd H6 d (.dK kvs)) D = some (.lst (((fs.map (·.1)).filter (nearB (jn sg))).map V.str)) := by rw [upd_ne nDd]; exact l6
      have hd7 : (upd H6 d (.dK kvs)) d = some (.dK kvs) := upd_same
      generalize upd H6 d (.dK kvs) = H7 at sU lD hd7
      refine ⟨_, rfl, Nat.zero_le _, fun qn hqn => ⟨D, qn, _, rfl, rfl, SqL.of ((Same.new hqn) _ _ lD), SqL.of upd_same, _, rfl, ?_⟩⟩
      have sn := sU.new' (o := .lst []) hqn
      have b35 : But a H (upd H7 qn (.lst [])) := fun b o n e => sn _ _ (b5 _ _ n (b3 _ _ n e))
      have hdn := (Same.new (o := .lst []) hqn) _ _ hd7
      have drn : DR (PairAt (upd H7 qn (.lst []))) kvs fs := dr5.imp fun v p q => q.same sn
      have hwn := hw5.same sn
      generalize upd H7 qn (.lst []) = H8 at b35 hdn drn hwn
      refine ite2 (fun ce => ?_) (fun ce => ?_)
      · have hnear : ∀ f ∈ fs, nearB (jn sg) f.1 = false := fun f hf => by
          rw [List.isEmpty_iff, List.map_eq_nil_iff, List.filter_eq_nil_iff] at ce
          have := ce f.1 (List.mem_map_of_mem hf)
          simpa using this
        refine ⟨_, rfl, (by show 3 ≤ sizeLine; exact line_of (by decide)), fun kl hkl => ?_⟩
        have skl := Same.new (o := .lst [.str "file", .str "file", .str "exec"]) hkl
        obtain ⟨wl8, hwl8⟩ := hwn.lst
        have nkl : kl ≠ a := fun z => by rw [z, hwl8] at hkl; cases hkl
        refine ⟨a, kl, _, _, rfl, hwn.same skl, by omega, by omega, upd_same, nkl, (by decide), (by decide), fun H9 j1 x1 b9 hw9 hx1 => ?_⟩
        have nklH : H kl = none := b35.none nkl hkl
        have b9' : But a H H9 := (b35.mut nklH).trans b9
        refine ⟨_, rfl, _, rfl, a, il, _, _, rfl, hw9, by omega, by omega, b9' _ _ hne hil, hne, by rw [List.length_map]; exact hi0, by rw [List.length_map]; omega, fun H10 j2 x2 b10 hw10 hx2 => ⟨(by show 2 ≤ sizeLine; exact line_of (by decide)), fun T hT => ?_⟩⟩
        obtain ⟨kd, hkd, rfl⟩ : ∃ z, (z = ("file" : Str) ∨ z = ("exec" : Str)) ∧ x1 = V.str z := by
          have e : [V.str "file", V.str "file", V.str "exec"] = ([("file" : Str), "file", "exec"]).map V.str := rfl
          rw [e, List.getElem?_map] at hx1
          cases c : ([("file" : Str), "file", "exec"])[j1]? with
          | none => rw [c] at hx1; cases hx1
          | some z =>
            rw [c] at hx1
            have := List.mem_of_getElem? c
            refine ⟨z, ?_, (Option.some.inj hx1).symm⟩
            simp at this
            exact this
        obtain ⟨idz, hidz, rfl⟩ : ∃ z, z ∈ ids ∧ x2 = V.str z := by
          rw [List.getElem?_map] at hx2
          cases c : ids[j2]? with
          | none => rw [c] at hx2; cases hx2
          | some z => rw [c] at hx2; exact ⟨z, List.mem_of_getElem? c, (Option.some.inj hx2).symm⟩
        have hvo : valueOk (kd, idz) = true := by
          unfold valueOk
          rw [hid idz hidz]
          rcases hkd with rfl | rfl <;> simp
        obtain ⟨wl9, hwl9⟩ := hw9.lst
        have hd10 := b10 _ _ nda (b9 _ _ nda (skl _ _ hdn))
        have dr10 : DR (PairAt H10) kvs fs := drn.imp fun v p q => ((q.same skl).butO ((hwn.same skl).lst.choose_spec) (by intro _ z; cases z) b9).butO hwl9 (by intro _ z; cases z) b10
        have sT := Same.new (o := .tup [.str kd, .str idz]) hT
        refine ⟨_, rfl, _, rfl, d, _, rfl, .inl ⟨kvs, .inr (jn sg), sT _ _ hd10, rfl, by rw [dr10.len]; exact line_lt (by omega), rfl⟩, ⟨_, _, _, _, rfl⟩, ?_, ?_, _, putS fs (jn sg) (kd, idz), upd_same, ?_, lf3.put g1 g2 g3 hnear hvo, ?_⟩
        · exact fun b o n e => by
            rw [upd_ne (ne_of_none e hd)]
            exact sT _ _ (b10 _ _ n (b9' _ _ n e))
        · exact ((hw10.same sT).upd nda).mono (by push_cast; omega)
        · exact DR.put (dr10.imp fun v p q => PairAt.mut (u := .dK kvs) (q.same sT) (sT _ _ hd10) (by intro _ z; cases z)) (PairAt.mut (u := .dK kvs) ⟨T, rfl, upd_same⟩ (sT _ _ hd10) (by intro _ z; cases z))
        · have := putS_len (l := fs) (k := jn sg) (v := (kd, idz))
          omega
      · exact ⟨⟨_, _, _, _, rfl⟩, b35, hwn.mono (by push_cast; omega), kvs, fs, hdn, drn, lf3, by omega⟩
    · rintro σ H3 ⟨⟨x4, x5, x6, x7, rfl⟩, b3, hw3, kvs, fs, hd3, dr3, lf3, hl3⟩
      exact ⟨_, rfl, k H3 d fs b3 (hw3.mono (by omega)) hd ⟨kvs, hd3, dr3⟩ lf3 (by omega)⟩
end
end FK

/-! Forkhaul k08: the law's files made twice. -/
namespace FK
open PySem PySem.Spec PyProof.Rows L2 TL
open PySem.W (Frag)
def alph7 : List Str := ["a", "b", "c", "d.x", "k", "m", "n"]
theorem alph7_nosl : ∀ s ∈ alph7, NoSl s := by unfold NoSl; decide +kernel
theorem alph4_7 : ∀ s ∈ alph4, s ∈ alph7 := by decide +kernel
theorem near_iff {p q : List Str} (hp : p ≠ []) (hq : q ≠ []) (np : ∀ s ∈ p, NoSl s) (nq : ∀ s ∈ q, NoSl s) : nearB (jn p) (jn q) = true ↔ (∃ r, r ≠ [] ∧ q = p ++ r) ∨ ∃ r, r ≠ [] ∧ p = q ++ r := by
  unfold nearB
  rw [Bool.or_eq_true, jn_slash hp, jn_slash hq, fr_front hq np nq, fr_front hp nq np]
/-- what stands ahead in each of the four kinds of a path; what it stood for -/
def pfx : Nat → List Str
  | 0 => []
  | 1 => ["k"]
  | 2 => ["m", "k"]
  | _ => ["n"]
def ddx (s : Str) : Nat → List Str
  | 0 => []
  | 1 => [s]
  | 2 => [s]
  | _ => []
def hdx : Nat → List Str
  | 0 => alph4
  | 1 => ["k"]
  | 2 => ["m"]
  | _ => ["n"]
theorem hdx_dis : ∀ t, t ≤ 3 → ∀ u, u ≤ 3 → t ≠ u → ∀ h, h ∈ hdx t → h ∈ hdx u → False := by
  have key : ∀ t ∈ [0, 1, 2, 3], ∀ u ∈ [0, 1, 2, 3], t ≠ u → ((hdx t).all fun h => !decide (h ∈ hdx u)) = true := by decide +kernel
  intro t ht u hu hne h h1 h2
  have := key t (by simp; omega) u (by simp; omega) hne
  rw [List.all_eq_true] at this
  have := this h h1
  rw [decide_eq_true h2] at this
  cases this
theorem pfx_alph : ∀ t, ∀ x ∈ pfx t, x ∈ alph7 := by
  intro t
  match t with
  | 0 => intro x hx; cases hx
  | 1 => decide +kernel
  | 2 => decide +kernel
  | n + 3 => show ∀ x ∈ [("n" : Str)], x ∈ alph7; decide +kernel
theorem pfx_len : ∀ t, (pfx t).length ≤ 2 := by
  intro t
  match t with
  | 0 => decide
  | 1 => decide
  | 2 => decide
  | n + 3 => show [("n" : Str)].length ≤ 2; decide
theorem pfx_head {t : Nat} (ht : t ≤ 3) {s : Str} {r : List Str} (hr : r ≠ []) (ha : ∀ x ∈ ddx s t ++ r, x ∈ alph4) : ∃ h l, pfx t ++ r = h :: l ∧ h ∈ hdx t := by
  match t, ht with
  | 0, _ =>
    cases r with
    | nil => exact absurd rfl hr
    | cons h l => exact ⟨h, l, rfl, ha h (by simp)⟩
  | 1, _ => exact ⟨_, _, rfl, by decide +kernel⟩
  | 2, _ => exact ⟨_, _, rfl, by decide +kernel⟩
  | 3, _ => exact ⟨_, _, rfl, by decide +kernel⟩
def TwEnt (fs : Fls) (s : Str) (g : Str × (Str × Str)) : Prop := ∃ t r, t ≤ 3 ∧ r ≠ [] ∧ g.1 = jn (pfx t ++ r) ∧ jn (ddx s t ++ r) ∈ fs.map (·.1) ∧ (∀ x ∈ ddx s t ++ r, x ∈ alph4) ∧ (ddx s t ++ r).length ≤ 3
structure TwOk (fs : Fls) (s : Str) (G : Fls) : Prop where
  ok : LFiles alph7 5 G
  ent : ∀ g ∈ G, TwEnt fs s g
theorem app_nosl {t : Nat} {s : Str} {r : List Str} (ha : ∀ x ∈ ddx s t ++ r, x ∈ alph4) : ∀ x ∈ pfx t ++ r, x ∈ alph7 := fun x hx => by
  rcases List.mem_append.mp hx with hx | hx
  · exact pfx_alph t x hx
  · exact alph4_7 x (ha x (List.mem_append_right _ hx))
theorem tw_near {fs : Fls} (hf : LFiles alph4 3 fs) {s : Str} {t u : Nat} {r q : List Str} (ht : t ≤ 3) (hu : u ≤ 3) (hr : r ≠ []) (hq : q ≠ []) (m1 : jn (ddx s t ++ r) ∈ fs.map (·.1)) (m2 : jn (ddx s u ++ q) ∈ fs.map (·.1)) (a1 : ∀ x ∈ ddx s t ++ r, x ∈ alph4) (a2 : ∀ x ∈ ddx s u ++ q, x ∈ alph4) :
    nearB (jn (pfx t ++ r)) (jn (pfx u ++ q)) = false := by
  cases h : nearB (jn (pfx t ++ r)) (jn (pfx u ++ q)) with
  | false => rfl
  | true =>
    exfalso
    have h' := (near_iff (by simp [hr]) (by simp [hq]) (fun x hx => alph7_nosl x (app_nosl a1 x hx)) (fun x hx => alph7_nosl x (app_nosl a2 x hx))).mp h
    have hsame : t = u := by
      rcases Nat.decEq t u with hne | he
      · exfalso
        obtain ⟨g1, l1, e1, i1⟩ := pfx_head ht hr a1
        obtain ⟨g2, l2, e2, i2⟩ := pfx_head hu hq a2
        have : g1 = g2 := by
          rcases h' with ⟨z, _, e⟩ | ⟨z, _, e⟩
          · rw [e1, e2] at e; exact (List.cons.inj e).1.symm
          · rw [e1, e2] at e; exact (List.cons.inj e).1
        subst this
        exact hdx_dis t ht u hu hne g1 i1 i2
      · exact he
    subst hsame
    obtain ⟨f, hfm, ef⟩ := List.mem_map.mp m1
    obtain ⟨g, hgm, eg⟩ := List.mem_map.mp m2
    have n1 : ∀ x ∈ ddx s t ++ r, NoSl x := fun x hx => alph7_nosl x (alph4_7 x (a1 x hx))
    have n2 : ∀ x ∈ ddx s t ++ q, NoSl x := fun x hx => alph7_nosl x (alph4_7 x (a2 x hx))
    rcases h' with ⟨z, hz, e⟩ | ⟨z, hz, e⟩
    · have e' : q = r ++ z := by rw [List.append_assoc] at e; exact List.append_cancel_left e
      have := hf.pre f hfm g hgm
      rw [ef, eg, jn_slash (by simp [hr])] at this
      rw [(fr_front (by simp [hq]) n1 n2).mpr ⟨z, hz, by rw [e', List.append_assoc]⟩] at this
      cases this
    · have e' : r = q ++ z := by rw [List.append_assoc] at e; exact List.append_cancel_left e
      have := hf.pre g hgm f hfm
      rw [ef, eg, jn_slash (by simp [hq])] at this
      rw [(fr_front (by simp [hr]) n2 n1).mpr ⟨z, hz, by rw [e', List.append_assoc]⟩] at this
      cases this
theorem TwOk.put {fs : Fls} (hf : LFiles alph4 3 fs) {s : Str} {G : Fls} (h : TwOk fs s G) {t : Nat} {r : List Str} (ht : t ≤ 3) (hr : r ≠ []) (m1 : jn (ddx s t ++ r) ∈ fs.map (·.1)) (a1 : ∀ x ∈ ddx s t ++ r, x ∈ alph4) (l1 : (ddx s t ++ r).length ≤ 3) {v : Str × Str} (hv : valueOk v = true) :
    TwOk fs s (putS G (jn (pfx t ++ r)) v) := by
  refine ⟨h.ok.put (by simp [hr]) ?_ (app_nosl a1) (fun g hg => ?_) hv, fun g hg => ?_⟩
  · rw [List.length_append]
    rw [List.length_append] at l1
    have := pfx_len t
    omega
  · obtain ⟨u, q, hu, hq, e, m2, a2, _⟩ := h.ent g hg
    rw [e]
    exact tw_near hf ht hu hr hq m1 m2 a1 a2
  · rcases putS_mem hg with rfl | hg
    · exact ⟨t, r, ht, hr, rfl, m1, a1, l1⟩
    · exact h.ent g hg
theorem TwOk.base {fs : Fls} (hf : LFiles alph4 3 fs) (s : Str) : TwOk fs s fs := by
  refine ⟨⟨hf.nd, fun f h => ?_, hf.pre, hf.val⟩, fun g hg => ?_⟩
  · obtain ⟨sg, e, h1, h2, h3⟩ := hf.seg f h
    exact ⟨sg, e, h1, by omega, fun x hx => alph4_7 x (h3 x hx)⟩
  · obtain ⟨sg, e, h1, h2, h3⟩ := hf.seg g hg
    exact ⟨0, sg, by decide, h1, e, by show jn sg ∈ _; rw [← e]; exact List.mem_map_of_mem hg, h3, h2⟩
abbrev rPart : V → List V → Hp → VK → Prop := fun x xs H Q => ∃ a b, x = .str a ∧ xs = [.str b] ∧ (b.length == 0) = false ∧ a.length ≤ sizeLine ∧ ∀ p, H p = none → Q (.ref p) (upd H p (.tup [.str (Txt.partition a b).1, .str (Txt.partition a b).2.1, .str (Txt.partition a b).2.2]))
theorem part_head {s : Str} {r : List Str} (h : NoSl s) : (Txt.partition (jn (s :: r)) "/").1 = s := by
  cases r with
  | nil => rw [partition_jn_one h]
  | cons x l => rw [partition_jn h (by simp)]
/-- the state in the loops of _law_twice -/
structure TwSt (H : Hp) (a d e : Addr) (c : Int) (u : HO) (kvs : List (Key × V)) (fs : Fls) (y : Str) (H' : Hp) (G : Fls) : Prop where
  but : But a H H'
  w : WellAt H' a c
  hd : H' d = some u
  dr : DR (PairAt H') kvs fs
  en : ∃ gk, H' e = some (.dK gk) ∧ DR (PairAt H') gk G
  tw : TwOk fs y G
theorem TwSt.put {H : Hp} {a d e : Addr} {c : Int} {u : HO} {kvs : List (Key × V)} {fs : Fls} {y : Str} {H' : Hp} {G : Fls} (h : TwSt H a d e c u kvs fs y H' G) (hf : LFiles alph4 3 fs) (he : H e = none) (nea : e ≠ a) (ned : e ≠ d) {f : Str × (Str × Str)} (hm : f ∈ fs) {v : V} (hv : PairAt H' v f.2)
    {t : Nat} {r : List Str} (ht : t ≤ 3) (hr : r ≠ []) (e1 : jn (ddx y t ++ r) = f.1) (a1 : ∀ x ∈ ddx y t ++ r, x ∈ alph4) (l1 : (ddx y t ++ r).length ≤ 3) {gk : List (Key × V)} (hg : H' e = some (.dK gk)) :
    TwSt H a d e c u kvs fs y (upd H' e (.dK (putK gk (.inr (jn (pfx t ++ r))) v))) (putS G (jn (pfx t ++ r)) f.2) := by
  obtain ⟨b, hw, hd, dr, ⟨gk', g1, g2⟩, tw⟩ := h
  rw [hg] at g1
  cases g1
  refine ⟨b.mut he, hw.upd nea, by rw [upd_ne ned.symm]; exact hd, dr.imp fun v p q => PairAt.mut (u := .dK gk) q hg (by intro _ z; cases z), ⟨_, upd_same, ?_⟩, tw.put hf ht hr (by rw [e1]; exact List.mem_map_of_mem hm) a1 l1 (hf.val f hm)⟩
  exact DR.put (g2.imp fun v p q => PairAt.mut (u := .dK gk) q hg (by intro _ z; cases z)) (PairAt.mut (u := .dK gk) hv hg (by intro _ z; cases z))
theorem TwSt.new {H : Hp} {a d e : Addr} {c : Int} {u : HO} {kvs : List (Key × V)} {fs : Fls} {y : Str} {H' : Hp} {G : Fls} (h : TwSt H a d e c u kvs fs y H' G) {T : Addr} {o : HO} (hT : H' T = none) : TwSt H a d e c u kvs fs y (upd H' T o) G := by
  obtain ⟨b, hw, hd, dr, ⟨gk, g1, g2⟩, tw⟩ := h
  have s := Same.new (o := o) hT
  exact ⟨fun b' u n e => s _ _ (b _ _ n e), hw.same s, s _ _ hd, dr.imp fun v p q => q.same s, ⟨gk, s _ _ g1, g2.imp fun v p q => q.same s⟩, tw⟩
theorem upd_self {H : Hp} {d : Addr} {u : HO} (h : H d = some u) : upd H d u = H := by
  funext b
  by_cases z : b = d
  · subst z; rw [upd_same, h]
  · rw [upd_ne z]
theorem TwSt.relock {H : Hp} {a d e : Addr} {c : Int} {u u' : HO} {kvs : List (Key × V)} {fs : Fls} {y : Str} {H' : Hp} {G : Fls} (h : TwSt H a d e c u kvs fs y H' G) (hu : ∀ xs, u ≠ .tup xs) (nda : d ≠ a) (ned : e ≠ d) : TwSt (upd H d u') a d e c u' kvs fs y (upd H' d u') G := by
  obtain ⟨b, hw, hd, dr, ⟨gk, g1, g2⟩, tw⟩ := h
  refine ⟨fun b' o n e' => ?_, hw.upd nda, upd_same, dr.imp fun v p q => PairAt.mut q hd hu, ⟨gk, by rw [upd_ne ned]; exact g1, g2.imp fun v p q => PairAt.mut q hd hu⟩, tw⟩
  by_cases z : b' = d
  · subst z; rw [upd_same] at e' ⊢; exact e'
  · rw [upd_ne z] at e' ⊢; exact b _ _ n e'
abbrev rLenS : List V → Hp → VK → Prop := fun xs H Q => ∃ z, xs = [.str z] ∧ z.length ≤ sizeLine ∧ Q (.int z.length) H
abbrev rSw : V → List V → Hp → VK → Prop := fun x xs H Q => ∃ a b, x = .str a ∧ xs = [.str b] ∧ Q (.bl (Txt.startswith a b)) H
/-- found[pre + path[len(front):]] = files[path] -/
theorem tw_dput {D : Ends} {a d e : Addr} {way : Int} {y : Str} {pre : Str} {f : Str × (Str × Str)} {r : List Str} {H' : Hp} {od : Obj} {kvs gk : List (Key × V)} {fs G : Fls}
    (hd : H' d = some (.frz od (.dK kvs))) (dr : DR (PairAt H') kvs fs) (nd : (fs.map (·.1)).Nodup) (hf : f ∈ fs) (hl : f.1.length ≤ 100) (hr : r.length ≤ 3) (ha : ∀ x ∈ r, x ∈ alph4) (hy : (fr [y]).length ≤ 10) (hp : pre.length ≤ 10) (hcut : cutS f.1 (some ((fr [y]).length : Int)) none = jn r)
    (hg : H' e = some (.dK gk)) (hdg : DR (PairAt H') gk G) (hG : G.length ≤ 1000)
    (k : ∀ v, PairAt H' v f.2 → D.nx [some (.ref a), some (.ref d), some (.ref d), some (.ref e), some (.int way), some (.str (fr [y])), some (.str f.1)] (upd H' e (.dK (putK gk (.inr (pre ++ jn r)) v)))) :
    sDPut (tVar 3) (tOp rAddS (tC (.str pre)) (tSl rSlS (tVar 6) (tPart (tCB rLenS (tCons (tVar 5) tNil))) tNoPart)) (tDGet (tVar 1) (tVar 6)) D [some (.ref a), some (.ref d), some (.ref d), some (.ref e), some (.int way), some (.str (fr [y])), some (.str f.1)] H' := by
  obtain ⟨v, hv, hp2⟩ := dr.val_some (valS_of_mem nd (show (f.1, f.2) ∈ fs from hf))
  have hj := jn_len r fun s hs => alph4_len s (ha s hs)
  refine ⟨_, rfl, _, rfl, d, v, rfl, .inl ⟨kvs, .inr f.1, .inr ⟨od, hd⟩, rfl, hv.symm⟩, _, rfl, _, rfl, _, rfl, _, rfl, line_of (by omega), _, rfl, f.1, rfl, line_of (by omega), ?_⟩
  rw [hcut]
  exact ⟨_, _, rfl, rfl, line_of (by omega), e, _, rfl, .inl ⟨gk, .inr (pre ++ jn r), hg, rfl, by rw [hdg.len]; exact line_lt (by omega), rfl⟩, k v hp2⟩
section
variable {P : Program} {w : World} {K : Frag} {mg : Str → Option Value} {base : Heap}
def spTwice : Sp := fun vs H Q _ => ∃ (a d : Addr) (c : Int) (fs : Fls), vs = [.ref a, .ref d, .ref d] ∧ WellAt H a c ∧ 0 ≤ c ∧ c ≤ 800000000 ∧ FdAt H d fs ∧ LFiles alph4 3 fs ∧ fs.length ≤ 20 ∧
  ∀ H' e G, But a H H' → WellAt H' a (c + 2) → H e = none → FdAt H' e G → LFiles alph7 5 G → G.length ≤ 80 → Q (.ref e) H'
abbrev nTwice : List Str := ["_law_well_here", "_law_files_here", "_law_last", "_law_found", "_law_way", "_law_front", "_law_path_here"]
theorem scTwice : FnScope nTwice ["_law_well_here", "_law_files_here", "_law_last"] (defScope sTwice) := ⟨rfl, rfl, rfl, by decide +kernel, rfl, by decide +kernel, by decide +kernel⟩
theorem ok_twice (F : GF K mg "_law_twice" sTwice) (GD : Cal P w K mg base CX0 1 "_law_draw" ["_law_well_here", "_law_size"] spDraw) (GP : Cal P w K mg base CX0 2 "_law_pick" ["_law_well_here", "_law_some"] spPick)
    (B : Fr mg) : Cal P w K mg base CX0 3 "_law_twice" ["_law_well_here", "_law_files_here", "_law_last"] spTwice := by
  refine cal0 F scTwice (fun _ _ _ _ _ _ us hl => match us, hl with | [_, _, _], _ => rfl) (fun vs H Q E h => ?_) (fun cdv A outer s H vs Q E hr h => ?_)
  · obtain ⟨a, d, c, fs, rfl, _⟩ := h
    rfl
  · obtain ⟨a, d, c, fs, rfl, hw, hc0, hc, hfd, hfs, hl, k⟩ := h
    refine ⟨_, (pss_cons (ps_par (i := 3) (j := 4) rfl scTwice.nd rfl rfl (by decide) rfl rfl (pa_cons (pe_callTy call_dictD (by rfl) B.dict (by decide +kernel) (pa_cons (pv 1) pa_nil)) (pa_cons (pcal (GD.mono (by decide : 1 ≤ 2)) hr (by rfl) pass0 (pa_cons (pv 0) (pa_cons pe_int pa_nil))) pa_nil)) (by rfl))
        (pss_cons (ps_lock (ps_set (i := 5) scTwice.nd rfl (Or.inl rfl) (pe_op op_add_str (pcal (GP.mono (by decide : 2 ≤ 2)) hr (by rfl) pass0 (pa_cons (pv 0) (pa_cons (pe_op op_cat (pe_callB (cr_sortedSA) (by rfl) B.sorted (by decide +kernel) (pa_cons (pe_lc (own := [("_law_path_here", 6)]) (g := gName 6) (te := tOp (rIxT K) (tM1 rPart (tVar 6) (tC (.str "/"))) (tC (.int 0))) rfl scTwice.nd (pi_keys (pv 1)) (blkOk_by (N := nTwice) (sc := defScope sTwice) (by decide +kernel)) (fun _ _ _ _ _ => (pg_name (i := 6) scTwice.nd rfl (Or.inl rfl))) (fun _ _ _ _ _ => (pts_one (pt_cmpR op_in_sign pe_str (pv 6) rfl))) (fun _ _ _ _ _ => (pe_ix ix_tup (pe_partition (pv 6) pe_str) pe_int (by intro _ _; rfl)))) pa_nil)) (pe_lst (pa_cons pe_str pa_nil))) pa_nil))) pe_str)))
        (pss_cons (ps_lock (ps_for (g := gName 6) PassesOwn.never rfl (pi_keys (pv 1)) (pg_name (i := 6) scTwice.nd rfl (Or.inl rfl)) (pss_cons (ps_if (PW.pt (pw_and (pt_val (pe_m1 PySem.F.slot_str_startswith PySem.F.type_str_startswith mt_startswith (pv 6) (pv 5))) (pw_and1 (pt_cmpR op_in_seq (pv 4) (pe_tup (pa_cons pe_int (pa_cons pe_int pa_nil))) rfl)))) (pss_one (ps_dput (hu_of hr) (pv 3) (pe_op op_add_str pe_str (pe_slice sl_str (pv 6) (po_some (pe_callB call_len_str (by rfl) B.len boot_len (pa_cons (pv 5) pa_nil))) po_none)) (pe_dget (hu_of hr) (pv 1) (pv 6) (by intro _ _; rfl)) (by rfl))) pss_nil)
        (pss_one (ps_if (PW.pt (pw_and (pt_val (pe_m1 PySem.F.slot_str_startswith PySem.F.type_str_startswith mt_startswith (pv 6) (pv 5))) (pw_and1 (pt_cmpR op_eq (pv 4) pe_int (nomark _))))) (pss_one (ps_dput (hu_of hr) (pv 3) (pe_op op_add_str pe_str (pe_slice sl_str (pv 6) (po_some (pe_callB call_len_str (by rfl) B.len boot_len (pa_cons (pv 5) pa_nil))) po_none)) (pe_dget (hu_of hr) (pv 1) (pv 6) (by intro _ _; rfl)) (by rfl))) pss_nil)))))
        (pss_cons (ps_lock (ps_for (g := gName 6) PassesOwn.never rfl (pi_keys (pv 2)) (pg_name (i := 6) scTwice.nd rfl (Or.inl rfl)) (pss_one (ps_if (PW.pt (pw_and (pt_cmpR op_eq (pv 4) pe_int (nomark _)) (pw_and1 (pt_cmpR op_ne (pe_slice sl_str (pv 6) po_none (po_some pe_int)) pe_str (nomark _))))) (pss_one (ps_dput (hu_of hr) (pv 3) (pe_op op_add_str pe_str (pv 6)) (pe_dget (hu_of hr) (pv 2) (pv 6) (by intro _ _; rfl)) (by rfl))) pss_nil))))
        (pss_one (ps_ret (pv 3))))))), ?_⟩
    obtain ⟨kvs, hd, hdr⟩ := hfd
    obtain ⟨wl0, hwl⟩ := hw.lst
    have nda : d ≠ a := ne_of hd hwl (by intro z; cases z)
    have hkl : kvs.length = fs.length := hdr.len
    refine ⟨_, rfl, d, kvs, rfl, .inl hd, fun e he => ?_⟩
    have ned : e ≠ d := fun z => by rw [z, hd] at he; cases he
    have nea : e ≠ a := fun z => by rw [z, hwl] at he; cases he
    have s1 : Same H (upd H e (.dK kvs)) := Same.new he
    refine ⟨_, rfl, a, _, c, rfl, (by decide), (by decide), hw.same s1, hc0, by omega, fun H2 way b2 hw2 hr0 hr1 => ⟨_, _, rfl, ?_⟩⟩
    have hd2 : H2 d = some (.dK kvs) := b2 _ _ nda (s1 _ _ hd)
    have he2 : H2 e = some (.dK kvs) := b2 _ _ nea upd_same
    have dr2 : DR (PairAt H2) kvs fs := hdr.imp fun v p q => (q.same s1).butO (s1 _ _ hwl) (by intro _ z; cases z) b2
    have bb2 : But a H H2 := fun b o n q => b2 _ _ n (s1 _ _ q)
    -- the front
    refine ⟨d, .dK kvs, hd2, trivial, fun od => ?_⟩
    refine ⟨_, rfl, _, rfl, d, od, rfl, .inl ⟨kvs, upd_same, fun D hD => lc_of (n := kvs.length) (fun j H' => Same (upd H2 d (.frz od (.dK kvs))) H' ∧ ∃ zs : List Str, zs.length ≤ j ∧ (∀ z ∈ zs, z ∈ alph4) ∧ H' D = some (.lst (zs.map V.str)))
      ⟨Same.new hD, [], Nat.le_refl _, (fun z hz => (by cases hz)), upd_same⟩ (fun j H' hj q => ⟨q.1 _ _ upd_same, hj⟩) (fun H' q => ⟨q.1 _ _ upd_same, Nat.le_refl _⟩) ?_ ?_⟩⟩
    · rintro j x H3 H4 hj ⟨s3, zs, z1, z2, l3⟩ ⟨rfl, kk, v, hkv, rfl⟩
      obtain ⟨f, hf, rfl, _⟩ := dr2.get hkv
      have hfm := List.mem_of_getElem? hf
      have hfl := hfs.len4 hfm
      refine ⟨rfl, _, rfl, 47, f.1, (show V.str "/" = V.str ⟨#[47]⟩ by decide +kernel), rfl, _, rfl, ?_⟩
      refine ite2 (fun _ => ?_) (fun _ => ⟨s3, zs, by omega, z2, l3⟩)
      refine ⟨_, rfl, ⟨_, rfl⟩, _, _, rfl, rfl, (by decide +kernel), line_of (by omega), fun p hp => ⟨p, _, _, _, rfl, rfl, SqT.of upd_same, rfl, ?_⟩⟩
      have sp := Same.new (o := .tup [.str (Txt.partition f.1 "/").1, .str (Txt.partition f.1 "/").2.1, .str (Txt.partition f.1 "/").2.2]) hp
      have hh : (Txt.partition f.1 "/").1 ∈ alph4 := by
        obtain ⟨sg, e1, g1, g2, g3⟩ := hfs.seg f hfm
        cases sg with
        | nil => exact absurd rfl g1
        | cons s r =>
          have hs := g3 s List.mem_cons_self
          rw [e1, part_head (alph7_nosl s (alph4_7 s hs))]
          exact hs
      refine ⟨_, sp _ _ l3, ?_, (s3.trans sp).mut hD, zs ++ [(Txt.partition f.1 "/").1], by rw [List.length_append]; show zs.length + 1 ≤ _; omega, ?_, by rw [upd_same, List.map_append]; rfl⟩
      · rw [List.length_map]
        exact line_lt (by omega)
      · intro z hz
        rcases List.mem_append.mp hz with hz | hz
        · exact z2 z hz
        · rw [List.mem_singleton.mp hz]; exact hh
    rintro H3 ⟨s3, zs, z1, z2, l3⟩
    refine ⟨D, zs, rfl, SqL.of l3, by omega, fun ys p hperm _ hp => ⟨(by show 1 ≤ sizeLine; exact line_of (by decide)), fun q hq => ?_⟩⟩
    have sp := Same.new (o := .lst (ys.map V.str)) hp
    have sq := Same.new (o := .lst [V.str ""]) hq
    have spq := sp.trans sq
    have hyl : ys.length = zs.length := hperm.length_eq
    refine ⟨p, q, ys.map V.str, [V.str ""], rfl, rfl, sq _ _ upd_same, upd_same, by rw [List.length_map, hyl]; exact line_of (by show zs.length + 1 ≤ _; omega), fun L hL => ?_⟩
    have sL := Same.new (o := .lst (ys.map V.str ++ [V.str ""])) hL
    have sAll := (s3.trans spq).trans sL
    have hwL : WellAt (upd (upd (upd H3 p (.lst (ys.map V.str))) q (.lst [V.str ""])) L (.lst (ys.map V.str ++ [V.str ""]))) a (c + 1) := (hw2.upd nda).same sAll
    have nLa : L ≠ a := fun z => by
      obtain ⟨xs, e3⟩ := (((hw2.upd (o := .frz od (.dK kvs)) nda).same s3).same spq).lst
      rw [z, e3] at hL
      cases hL
    refine ⟨a, L, c + 1, _, rfl, hwL, by omega, by omega, upd_same, nLa, by rw [List.length_append]; show 0 < _ + 1; omega, by rw [List.length_append, List.length_map, hyl]; show _ + 1 ≤ _; omega, fun H5 i x b5 hw5 hx => ?_⟩
    obtain ⟨y, hy, rfl⟩ : ∃ y : Str, (y ∈ alph4 ∨ y = ("" : Str)) ∧ x = V.str y := by
      have hm := List.mem_of_getElem? hx
      rcases List.mem_append.mp hm with hm | hm
      · obtain ⟨y, hy, rfl⟩ := List.mem_map.mp hm
        exact ⟨y, .inl (z2 y (hperm.mem_iff.mp hy)), rfl⟩
      · exact ⟨"", .inr rfl, List.mem_singleton.mp hm⟩
    have hyn : NoSl y := by
      rcases hy with hy | rfl
      · exact alph7_nosl y (alph4_7 y hy)
      · unfold NoSl; decide +kernel
    have hyL : y.length ≤ 3 := by
      rcases hy with hy | rfl
      · exact alph4_len y hy
      · decide +kernel
    have e1 : (Str.ofString "/").length = 1 := by decide +kernel
    refine ⟨_, _, rfl, rfl, line_of (by rw [e1]; omega), ?_⟩
    have hfr : y ++ ("/" : Str) = fr [y] := by rw [fr_cons, fr_nil, str_app_empty]
    rw [hfr]
    have hd5 : H5 d = some (.frz od (.dK kvs)) := b5 _ _ nda (sAll _ _ upd_same)
    refine ⟨hd5, ?_⟩
    have st0 : TwSt (upd H d (.frz od (.dK kvs))) a d e (c + 2) (.frz od (.dK kvs)) kvs fs y H5 fs := by
      have hwL' := hwL.lst
      obtain ⟨wlL, hwlL⟩ := hwL'
      have dl : ∀ {v : V} {p : Str × Str}, PairAt H2 v p → PairAt H5 v p := fun q => ((q.mut (u := .dK kvs) (o := .frz od (.dK kvs)) hd2 (by intro _ z; cases z)).same sAll).butO hwlL (by intro _ z; cases z) b5
      refine ⟨fun b o n e' => ?_, hw5.mono (by omega), hd5, dr2.imp fun v p q => dl q, ⟨kvs, b5 _ _ nea (sAll _ _ (by rw [upd_ne ned]; exact he2)), dr2.imp fun v p q => dl q⟩, TwOk.base hfs y⟩
      refine b5 _ _ n (sAll _ _ ?_)
      by_cases z : b = d
      · subst z; rw [upd_same] at e' ⊢; exact e'
      · rw [upd_ne z] at e' ⊢; exact bb2 _ _ n e'
    have st1 := st0.relock (u' := .dK kvs) (by intro _ z; cases z) nda ned
    rw [upd_upd, upd_self hd] at st1
    generalize upd H5 d (.dK kvs) = H6 at st1
    have hflen : (fr [y]).length = y.length + 1 := by rw [← hfr, len_app, e1]
    -- what is cut off
    have cut : ∀ f ∈ fs, Txt.startswith f.1 (fr [y]) = true → ∃ r, r ≠ [] ∧ f.1 = jn (y :: r) ∧ (∀ x ∈ y :: r, x ∈ alph4) ∧ (y :: r).length ≤ 3 ∧ cutS f.1 (some ((fr [y]).length : Int)) none = jn r := by
      intro f hf hsw
      obtain ⟨sg, e1, g1, g2, g3⟩ := hfs.seg f hf
      rw [e1] at hsw
      obtain ⟨r, hr, e2⟩ := (fr_front g1 (fun s hs => by rw [List.mem_singleton.mp hs]; exact hyn) (fun s hs => alph7_nosl s (alph4_7 s (g3 s hs)))).mp hsw
      have e3 : sg = y :: r := e2
      subst e3
      exact ⟨r, hr, e1, g3, g2, by rw [e1]; exact cutS_front [y] hr⟩
    have kpre : ∀ r : List Str, r ≠ [] → ("k/" : Str) ++ jn r = jn (pfx 1 ++ r) := fun r hr => by
      show _ = jn ("k" :: r)
      rw [jn_cons hr]
      rfl
    have mpre : ∀ r : List Str, r ≠ [] → ("m/k/" : Str) ++ jn r = jn (pfx 2 ++ r) := fun r hr => by
      show _ = jn ("m" :: "k" :: r)
      rw [jn_cons (by simp), jn_cons hr, ← str_append_assoc]
      rw [← str_append_assoc]
      rfl
    have npre : ∀ r : List Str, r ≠ [] → ("n/" : Str) ++ jn r = jn (pfx 3 ++ r) := fun r hr => by
      show _ = jn ("n" :: r)
      rw [jn_cons hr]
      rfl
    have cutr : ∀ f ∈ fs, f.1.length ≤ 100 := fun f hf => by have := hfs.len4 hf; omega
    have hfr10 : (fr [y]).length ≤ 10 := by omega
    -- the first loop
    refine ⟨d, .dK kvs, st1.hd, trivial, fun od2 => ?_⟩
    have st2 := st1.relock (u' := .frz od2 (.dK kvs)) (by intro _ z; cases z) nda ned
    have heL : (upd H d (.frz od2 (.dK kvs))) e = none := by rw [upd_ne ned]; exact he
    refine ⟨_, rfl, d, od2, rfl, .inl ⟨kvs, upd_same, for_of (n := kvs.length) (fun i σ H' => (∃ x6, σ = [some (.ref a), some (.ref d), some (.ref d), some (.ref e), some (.int way), some (.str (fr [y])), x6]) ∧ ∃ G, TwSt (upd H d (.frz od2 (.dK kvs))) a d e (c + 2) (.frz od2 (.dK kvs)) kvs fs y H' G ∧ G.length ≤ fs.length + 2 * i) ?_ ?_ ?_ ?_ ?_⟩⟩
    · exact ⟨⟨_, rfl⟩, fs, st2, Nat.le_refl _⟩
    · rintro i σ H' hi ⟨_, G, s, _⟩
      exact ⟨s.hd, hi⟩
    · rintro σ H' ⟨_, G, s, _⟩
      exact ⟨s.hd, Nat.le_refl _⟩
    · rintro i x σ H7 H8 hi ⟨⟨x6, rfl⟩, G, sG, lG⟩ ⟨rfl, kk, v, hkv, rfl⟩
      obtain ⟨f, hf, rfl, _⟩ := sG.dr.get hkv
      have hfm := List.mem_of_getElem? hf
      have hf100 := cutr f hfm
      have second : ∀ (D : Ends) (H9 : Hp) (G1 : Fls), TwSt (upd H d (.frz od2 (.dK kvs))) a d e (c + 2) (.frz od2 (.dK kvs)) kvs fs y H9 G1 → G1.length ≤ fs.length + 2 * i + 1 →
          D.nx = (fun σ H' => (∃ x6, σ = [some (.ref a), some (.ref d), some (.ref d), some (.ref e), some (.int way), some (.str (fr [y])), x6]) ∧ ∃ G, TwSt (upd H d (.frz od2 (.dK kvs))) a d e (c + 2) (.frz od2 (.dK kvs)) kvs fs y H' G ∧ G.length ≤ fs.length + 2 * (i + 1)) →
          tIfS (tAnd (tB (tM1 rSw (tVar 6) (tVar 5))) (tTest (tOp rEq (tVar 4) (tC (.int 2))))) (sDPut (tVar 3) (tOp rAddS (tC (.str "m/k/")) (tSl rSlS (tVar 6) (tPart (tCB rLenS (tCons (tVar 5) tNil))) tNoPart)) (tDGet (tVar 1) (tVar 6))) tNext D
            [some (.ref a), some (.ref d), some (.ref d), some (.ref e), some (.int way), some (.str (fr [y])), some (.str f.1)] H9 := by
        intro D H9 G1 s9 l9 hD
        have skip : D.nx [some (.ref a), some (.ref d), some (.ref d), some (.ref e), some (.int way), some (.str (fr [y])), some (.str f.1)] H9 := by
          rw [hD]; exact ⟨⟨_, rfl⟩, G1, s9, by omega⟩
        refine ⟨_, rfl, ⟨_, rfl⟩, _, rfl, _, _, rfl, rfl, _, rfl, ?_⟩
        cases hsw : Txt.startswith f.1 (fr [y]) with
        | false => exact iteF (iteF skip)
        | true =>
          refine iteT' ?_
          refine ⟨_, rfl, rfl, _, rfl, ?_⟩
          refine ite2 (fun _ => ?_) (fun _ => skip)
          obtain ⟨r, hr, e1', g1, g2, hcut⟩ := cut f hfm hsw
          obtain ⟨gk, hg, hdg⟩ := s9.en
          refine tw_dput s9.hd s9.dr hfs.nd hfm hf100 (by rw [List.length_cons] at g2; omega) (fun x hx => g1 x (List.mem_cons_of_mem _ hx)) hfr10 (by decide +kernel) hcut hg hdg (by omega) fun v2 hv2 => ?_
          rw [hD, mpre r hr]
          exact ⟨⟨_, rfl⟩, _, s9.put hfs heL nea ned hfm hv2 (t := 2) (by decide) hr e1'.symm g1 g2 hg, by have := putS_len (l := G1) (k := jn (pfx 2 ++ r)) (v := f.2); omega⟩
      refine ⟨_, rfl, ⟨_, rfl⟩, _, rfl, _, _, rfl, rfl, _, rfl, ?_⟩
      cases hsw : Txt.startswith f.1 (fr [y]) with
      | false => exact iteF (iteF (second _ H8 G sG (by omega) rfl))
      | true =>
        refine iteT' ?_
        refine ⟨_, rfl, (by show 2 ≤ sizeLine; exact line_of (by decide)), fun T hT => ⟨T, _, rfl, .inr (SqT.of upd_same), rfl, rfl, _, rfl, ?_⟩⟩
        have sT := sG.new (o := .tup [.int 1, .int 2]) hT
        refine ite2 (fun _ => ?_) (fun _ => second _ _ G sT (by omega) rfl)
        obtain ⟨r, hr, e1', g1, g2, hcut⟩ := cut f hfm hsw
        obtain ⟨gk, hg, hdg⟩ := sT.en
        refine tw_dput sT.hd sT.dr hfs.nd hfm hf100 (by rw [List.length_cons] at g2; omega) (fun x hx => g1 x (List.mem_cons_of_mem _ hx)) hfr10 (by decide +kernel) hcut hg hdg (by omega) fun v2 hv2 => ?_
        refine second _ _ (putS G (jn (pfx 1 ++ r)) f.2) ?_ ?_ rfl
        · rw [kpre r hr]
          exact sT.put hfs heL nea ned hfm hv2 (t := 1) (by decide) hr e1'.symm g1 g2 hg
        · have := putS_len (l := G) (k := jn (pfx 1 ++ r)) (v := f.2)
          omega
    rintro σ H7 ⟨⟨x6, rfl⟩, G, sG, lG⟩
    refine ⟨sG.hd, ?_⟩
    have st3 := sG.relock (u' := .dK kvs) (by intro _ z; cases z) nda ned
    rw [upd_upd, upd_self hd] at st3
    generalize upd H7 d (.dK kvs) = H9 at st3
    -- the second loop
    refine ⟨d, .dK kvs, st3.hd, trivial, fun od3 => ?_⟩
    have st4 := st3.relock (u' := .frz od3 (.dK kvs)) (by intro _ z; cases z) nda ned
    have heL2 : (upd H d (.frz od3 (.dK kvs))) e = none := by rw [upd_ne ned]; exact he
    refine ⟨_, rfl, d, od3, rfl, .inl ⟨kvs, upd_same, for_of (n := kvs.length) (fun i σ H' => (∃ x6, σ = [some (.ref a), some (.ref d), some (.ref d), some (.ref e), some (.int way), some (.str (fr [y])), x6]) ∧ ∃ G, TwSt (upd H d (.frz od3 (.dK kvs))) a d e (c + 2) (.frz od3 (.dK kvs)) kvs fs y H' G ∧ G.length ≤ fs.length + 2 * kvs.length + i) ?_ ?_ ?_ ?_ ?_⟩⟩
    · exact ⟨⟨_, rfl⟩, G, st4, by omega⟩
    · rintro i σ H' hi ⟨_, G, s, _⟩
      exact ⟨s.hd, hi⟩
    · rintro σ H' ⟨_, G, s, _⟩
      exact ⟨s.hd, Nat.le_refl _⟩
    · rintro i x σ H10 H11 hi ⟨⟨x6', rfl⟩, G2, sG2, lG2⟩ ⟨rfl, kk, v, hkv, rfl⟩
      obtain ⟨f, hf, rfl, _⟩ := sG2.dr.get hkv
      have hfm := List.mem_of_getElem? hf
      have hf100 := cutr f hfm
      refine ⟨_, rfl, rfl, _, rfl, ?_⟩
      refine ite2 (fun _ => ?_) (fun _ => iteF ⟨⟨_, rfl⟩, G2, sG2, by omega⟩)
      refine ⟨_, rfl, _, rfl, f.1, rfl, line_of (by omega), rfl, _, rfl, ?_⟩
      refine ite2 (fun _ => ?_) (fun _ => ⟨⟨_, rfl⟩, G2, sG2, by omega⟩)
      obtain ⟨sg, e2, g1, g2, g3⟩ := hfs.seg f hfm
      obtain ⟨gk, hg, hdg⟩ := sG2.en
      obtain ⟨v2, hv2, hp2⟩ := sG2.dr.val_some (valS_of_mem hfs.nd (show (f.1, f.2) ∈ fs from hfm))
      have hn2 : (Str.ofString "n/").length = 2 := by decide +kernel
      refine ⟨_, rfl, _, rfl, d, v2, rfl, .inl ⟨kvs, .inr f.1, .inr ⟨od3, sG2.hd⟩, rfl, hv2.symm⟩, _, rfl, _, rfl, _, _, rfl, rfl, line_of (by omega), e, _, rfl, .inl ⟨gk, .inr (("n/" : Str) ++ f.1), hg, rfl, by rw [hdg.len]; exact line_lt (by omega), rfl⟩, ⟨_, rfl⟩, putS G2 (jn (pfx 3 ++ sg)) f.2, ?_, ?_⟩
      · rw [e2, npre sg g1]
        exact sG2.put hfs heL2 nea ned hfm hp2 (t := 3) (by decide) g1 e2.symm g3 g2 hg
      · have := putS_len (l := G2) (k := jn (pfx 3 ++ sg)) (v := f.2)
        omega
    rintro σ H10 ⟨⟨x6', rfl⟩, G2, sG2, lG2⟩
    refine ⟨sG2.hd, ?_⟩
    have st5 := sG2.relock (u' := .dK kvs) (by intro _ z; cases z) nda ned
    rw [upd_upd, upd_self hd] at st5
    obtain ⟨gk, hg, hdg⟩ := st5.en
    exact ⟨_, rfl, k _ e G2 st5.but st5.w he ⟨gk, hg, hdg⟩ st5.tw.ok (by omega)⟩
end
end FK

/-! Forkhaul k08: _law_trees. -/
namespace FK
open PySem PySem.Spec PyProof.Rows L2 TL
open PySem.W (Frag)
/-! ### rows under a front -/
def cutR : List Str → Row → Option Row
  | [], r => if r.1 = [] then none else some r
  | s :: P, r => (tailR s r).bind (cutR P)
def down (R : List Row) (P : List Str) : List Row := R.filterMap (cutR P)
theorem tail_some {s : Str} {r r' : Row} : tailR s r = some r' ↔ r.1 = s :: r'.1 ∧ r'.1 ≠ [] ∧ r.2 = r'.2 := by
  obtain ⟨l, p⟩ := r
  obtain ⟨l', p'⟩ := r'
  match l with
  | [] => simp [tailR]
  | [x] =>
    simp only [tailR]
    constructor
    · intro h; cases h
    · rintro ⟨h, h2, _⟩
      injection h with _ h
      exact absurd h.symm h2
  | x :: y :: l =>
    show (if x = s then some (y :: l, p) else none) = some (l', p') ↔ _
    by_cases c : x = s
    · subst c
      simp only [if_pos]
      constructor
      · intro h; cases h; exact ⟨rfl, by simp, rfl⟩
      · rintro ⟨h, _, h3⟩
        injection h with _ h
        have h3' : p = p' := h3
        show some (y :: l, p) = some (l', p')
        rw [h, h3']
    · rw [if_neg c]
      constructor
      · intro h; cases h
      · rintro ⟨h, _⟩
        have h' : x :: y :: l = s :: l' := h
        injection h' with h'
        exact absurd h' c
theorem cut_some : ∀ {P : List Str} {r r' : Row}, cutR P r = some r' ↔ r.1 = P ++ r'.1 ∧ r'.1 ≠ [] ∧ r.2 = r'.2
  | [], r, r' => by
    unfold cutR
    by_cases c : r.1 = []
    · rw [if_pos c]
      constructor
      · intro h; cases h
      · rintro ⟨h, h2, _⟩; rw [c] at h; exact absurd h.symm h2
    · rw [if_neg c]
      constructor
      · intro h; cases h; exact ⟨rfl, c, rfl⟩
      · rintro ⟨h, _, h3⟩
        obtain ⟨l, p⟩ := r
        obtain ⟨l', p'⟩ := r'
        cases h; cases h3; rfl
  | s :: P, r, r' => by
    unfold cutR
    rw [Option.bind_eq_some_iff]
    constructor
    · rintro ⟨r1, h1, h2⟩
      obtain ⟨a1, a2, a3⟩ := tail_some.mp h1
      obtain ⟨b1, b2, b3⟩ := cut_some.mp h2
      exact ⟨by rw [a1, b1]; rfl, b2, a3.trans b3⟩
    · rintro ⟨h1, h2, h3⟩
      exact ⟨(P ++ r'.1, r.2), tail_some.mpr ⟨h1, by simp [h2], rfl⟩, cut_some.mpr ⟨rfl, h2, h3⟩⟩
theorem cut_snoc (P : List Str) (s : Str) (r : Row) : (cutR P r).bind (tailR s) = cutR (P ++ [s]) r := by
  cases h : cutR (P ++ [s]) r with
  | none =>
    cases h2 : (cutR P r).bind (tailR s) with
    | none => rfl
    | some r' =>
      obtain ⟨r1, h3, h4⟩ := Option.bind_eq_some_iff.mp h2
      obtain ⟨a1, a2, a3⟩ := cut_some.mp h3
      obtain ⟨b1, b2, b3⟩ := tail_some.mp h4
      have : cutR (P ++ [s]) r = some r' := cut_some.mpr ⟨by rw [a1, b1]; simp, b2, a3.trans b3⟩
      rw [h] at this; cases this
  | some r' =>
    obtain ⟨a1, a2, a3⟩ := cut_some.mp h
    exact Option.bind_eq_some_iff.mpr ⟨(s :: r'.1, r.2), cut_some.mpr ⟨by rw [a1]; simp, by simp, rfl⟩, tail_some.mpr ⟨rfl, a2, a3⟩⟩
theorem down_snoc (R : List Row) (P : List Str) (s : Str) : down R (P ++ [s]) = sub (down R P) s := by
  unfold down sub
  rw [List.filterMap_filterMap]
  congr 1
  funext r
  exact (cut_snoc P s r).symm
theorem down_nil {R : List Row} (h : ∀ r ∈ R, r.1 ≠ []) : down R [] = R := by
  unfold down
  have : ∀ r ∈ R, cutR [] r = some r := fun r hr => by unfold cutR; rw [if_neg (h r hr)]
  induction R with
  | nil => rfl
  | cons r R ih =>
    rw [List.filterMap_cons, this r List.mem_cons_self, ih (fun r' hr => h r' (List.mem_cons_of_mem _ hr)) (fun r' hr => this r' (List.mem_cons_of_mem _ hr))]
/-! ### tables with the same entries -/
theorem nodup_of_keys {α : Type} {l : List (Str × α)} (h : (l.map (·.1)).Nodup) : l.Nodup := by
  rw [List.nodup_iff_pairwise_ne] at h ⊢
  exact (List.pairwise_map.mp h).imp fun a e => a (by rw [e])
theorem ents_congr {l m : List (Str × Str × Str)} (n1 : (l.map (·.1)).Nodup) (n2 : (m.map (·.1)).Nodup) (h : ∀ e, e ∈ l ↔ e ∈ m) : ents l = ents m := by
  have hp : l.Perm m := (List.perm_ext_iff_of_nodup (nodup_of_keys n1) (nodup_of_keys n2)).mpr h
  unfold ents
  rw [srt_of_perm (hp.map _)]
  congr 1
  funext n
  have : valS l n = valS m n := by
    cases c : valS m n with
    | none =>
      cases c1 : valS l n with
      | none => rfl
      | some v =>
        have := valS_of_mem n2 ((h _).mp (valS_some c1))
        rw [c] at this; cases this
    | some v => exact valS_of_mem n1 ((h _).mpr (valS_some c))
  rw [this]
theorem len_of_same {l m : List (Str × Str × Str)} (n1 : (l.map (·.1)).Nodup) (n2 : (m.map (·.1)).Nodup) (h : ∀ e, e ∈ l ↔ e ∈ m) : l.length = m.length :=
  ((List.perm_ext_iff_of_nodup (nodup_of_keys n1) (nodup_of_keys n2)).mpr h).length_eq
/-- behind the rows Ri: the table L grown so far -/
structure TabI (E : List (Str × Str × Str)) (Ri : List Row) (L : List (Str × Str × Str)) : Prop where
  nd : (L.map (·.1)).Nodup
  key : ∀ x, x ∈ L.map (·.1) ↔ x ∈ (files Ri).map (·.1) ∨ x ∈ dirs Ri
  mem : ∀ e ∈ L, e ∈ E
theorem TabI.nil {E : List (Str × Str × Str)} : TabI E [] [] := ⟨.nil, fun x => by simp [files, dirs], fun e h => by cases h⟩
theorem putS_key {α : Type} {l : List (Str × α)} {k : Str} {v : α} (x : Str) : x ∈ (putS l k v).map (·.1) ↔ x = k ∨ x ∈ l.map (·.1) := by
  have h1 : x ∈ (putS l k v).map (·.1) ↔ valS (putS l k v) x ≠ none := by rw [Ne, valS_none, Classical.not_not]
  have h2 : x ∈ l.map (·.1) ↔ valS l x ≠ none := by rw [Ne, valS_none, Classical.not_not]
  rw [h1, h2, valS_put]
  by_cases c : x = k <;> simp [c]
theorem TabI.file {E : List (Str × Str × Str)} {Ri : List Row} {L : List (Str × Str × Str)} (h : TabI E Ri L) {x : Str} {p : Str × Str} (he : (x, p) ∈ E) : TabI E (Ri ++ [([x], p)]) (putS L x p) := by
  refine ⟨putS_nodup h.nd, fun y => ?_, fun e hm => ?_⟩
  · rw [putS_key, h.key, files_snoc, dirs_snoc]
    show _ ↔ y ∈ (files Ri ++ [(x, p)]).map (·.1) ∨ y ∈ dirs Ri
    simp only [List.map_append, List.mem_append, List.map_cons, List.map_nil, List.mem_singleton]
    constructor
    · rintro (h | h | h)
      · exact .inl (.inr h)
      · exact .inl (.inl h)
      · exact .inr h
    · rintro ((h | h) | h)
      · exact .inr (.inl h)
      · exact .inl h
      · exact .inr (.inr h)
  · rcases putS_mem hm with rfl | hm
    · exact he
    · exact h.mem e hm
theorem TabI.dirN {E : List (Str × Str × Str)} {Ri : List Row} {L : List (Str × Str × Str)} (h : TabI E Ri L) {x y : Str} {l : List Str} {p v : Str × Str} (he : (x, v) ∈ E) : TabI E (Ri ++ [(x :: y :: l, p)]) (putS L x v) := by
  refine ⟨putS_nodup h.nd, fun z => ?_, fun e hm => ?_⟩
  · rw [putS_key, h.key, files_snoc, dirs_snoc]
    show _ ↔ z ∈ (files Ri ++ ([] : List (Str × Str × Str))).map (·.1) ∨ z ∈ addS (dirs Ri) x
    rw [List.append_nil, addS_mem]
    constructor
    · rintro (h | h | h)
      · exact .inr (.inr h)
      · exact .inl h
      · exact .inr (.inl h)
    · rintro (h | h | h)
      · exact .inr (.inl h)
      · exact .inr (.inr h)
      · exact .inl h
  · rcases putS_mem hm with rfl | hm
    · exact he
    · exact h.mem e hm
theorem TabI.dirO {E : List (Str × Str × Str)} {Ri : List Row} {L : List (Str × Str × Str)} (h : TabI E Ri L) {x y : Str} {l : List Str} {p : Str × Str} (hx : x ∈ L.map (·.1)) : TabI E (Ri ++ [(x :: y :: l, p)]) L := by
  refine ⟨h.nd, fun z => ?_, h.mem⟩
  have := (h.key x).mp hx
  rw [h.key, files_snoc, dirs_snoc]
  show _ ↔ z ∈ (files Ri ++ ([] : List (Str × Str × Str))).map (·.1) ∨ z ∈ addS (dirs Ri) x
  rw [List.append_nil, addS_mem]
  constructor
  · rintro (h | h)
    · exact .inl h
    · exact .inr (.inl h)
  · rintro (h | h | h)
    · exact .inl h
    · exact .inr h
    · rw [h]; exact this
theorem TabI.done {m : Nat} {R : List Row} {L : List (Str × Str × Str)} (h : TabI (entL m R) R L) (b : RBase R) : ∀ e, e ∈ L ↔ e ∈ entL m R := fun e => by
  constructor
  · exact h.mem e
  · intro he
    have hk : e.1 ∈ L.map (·.1) := by
      rw [h.key, ← List.mem_append, ← entL_keys m]
      exact List.mem_map_of_mem he
    obtain ⟨e', he', e1⟩ := List.mem_map.mp hk
    have nd : ((entL m R).map (·.1)).Nodup := by rw [entL_keys]; exact b.nd
    have v1 := valS_of_mem nd (show (e.1, e.2) ∈ _ from he)
    have v2 := valS_of_mem nd (show (e'.1, e'.2) ∈ _ from h.mem _ he')
    have e1' : e'.1 = e.1 := e1
    rw [e1', v1] at v2
    have : e = e' := Prod.ext e1'.symm (Option.some.inj v2)
    rw [this]; exact he'
theorem TabI.old {E : List (Str × Str × Str)} {Ri : List Row} {L : List (Str × Str × Str)} (h : TabI E Ri L) {x : Str} (hn : ((files Ri).map (·.1) ++ dirs Ri).Nodup) (hf : x ∉ (files Ri).map (·.1)) : x ∈ L.map (·.1) ↔ x ∈ dirs Ri := by
  rw [h.key]
  constructor
  · rintro (h | h)
    · exact absurd h hf
    · exact h
  · exact .inr
end FK

/-! Forkhaul k08: _law_trees, the walk. -/
namespace FK
open PySem PySem.Spec PyProof.Rows L2 TL
open PySem.W (Frag)
def ThV (K : Frag) (H : Hp) (v : V) (t : Th) : Prop := ∃ a, v = .ref a ∧ ThAt K H a t
theorem ThV.same {K : Frag} {H H' : Hp} {v : V} {t : Th} (h : ThV K H v t) (s : Same H H') : ThV K H' v t := by
  obtain ⟨a, e, h⟩ := h
  exact ⟨a, e, h.same s⟩
theorem ThV.mut {K : Frag} {H : Hp} {v : V} {t : Th} {d : Addr} {u o : HO} (h : ThV K H v t) (hd : H d = some u) (h1 : ∀ xs, u ≠ .tup xs) (h2 : ∀ C dx fs, u ≠ .ins C dx fs) : ThV K (upd H d o) v t := by
  obtain ⟨a, e, h⟩ := h
  exact ⟨a, e, h.mut hd h1 h2⟩
/-- the path and the row at i -/
theorem row_at {A : List Str} (hA : ∀ s ∈ A, NoSl s) {m : Nat} {fs : Fls} (h : LFiles A m fs) {i : Nat} {z : Str} (hz : (srt (fs.map (·.1)))[i]? = some z) :
    ∃ sg p, z = jn sg ∧ sg ≠ [] ∧ sg.length ≤ m ∧ (∀ s ∈ sg, s ∈ A) ∧ (z, p) ∈ fs ∧ valS fs z = some p ∧ (rowsOf fs)[i]? = some (sg, p) := by
  obtain ⟨p, hp, hr⟩ := (rows_get fs).2 i z hz
  have hm := valS_some hp
  obtain ⟨sg, e, g1, g2, g3⟩ := h.seg _ hm
  have e' : z = jn sg := e
  rw [e', split_jn g1 fun s hs => hA s (g3 s hs)] at hr
  exact ⟨sg, p, e', g1, g2, g3, hm, hp, hr⟩
theorem foldl_addS_ext : ∀ (l acc : List Str), ∃ t, l.foldl addS acc = acc ++ t
  | [], acc => ⟨[], by simp⟩
  | x :: l, acc => by
    rw [List.foldl_cons]
    obtain ⟨t, ht⟩ := foldl_addS_ext l (addS acc x)
    unfold addS at ht ⊢
    by_cases c : x ∈ acc
    · rw [if_pos c] at ht ⊢
      exact ⟨t, ht⟩
    · rw [if_neg c] at ht ⊢
      exact ⟨x :: t, by rw [ht]; simp⟩
theorem dirs_app (A B : List Row) : ∃ t, dirs (A ++ B) = dirs A ++ t := by
  unfold dirs
  rw [List.filterMap_append, List.foldl_append]
  exact foldl_addS_ext _ _
theorem files_app (A B : List Row) : files (A ++ B) = files A ++ files B := List.filterMap_append
theorem down_app (A B : List Row) (P : List Str) : down (A ++ B) P = down A P ++ down B P := List.filterMap_append
theorem fr_len {b : Nat} : ∀ P : List Str, (∀ s ∈ P, s.length ≤ b) → (fr P).length ≤ (b + 1) * P.length
  | [], _ => by
    have : (fr []).length = 0 := by decide +kernel
    rw [this]; exact Nat.zero_le _
  | s :: P, h => by
    have h1 := fr_len P fun t ht => h t (List.mem_cons_of_mem _ ht)
    have h2 := h s List.mem_cons_self
    have h3 : (Str.ofString "/").length = 1 := by decide +kernel
    rw [fr_cons, len_app, len_app, h3, List.length_cons, Nat.mul_add]
    omega
theorem alph7_len : ∀ s ∈ alph7, s.length ≤ 3 := by decide +kernel
section
variable {P : Program} {w : World} {K : Frag} {mg : Str → Option Value} {base : Heap}
def spTrees (K : Frag) : Nat → Sp
  | 0 => fun _ _ _ _ => False
  | m + 1 => fun vs H Q _ => ∃ (d fa : Addr) (fs : Fls) (F : List Str) (vs0 : List V) (ts : List Th), vs = [.ref d, .str (fr F), .ref fa] ∧ FdAt H d fs ∧ LFiles alph7 5 fs ∧ fs.length ≤ 80 ∧ (∀ s ∈ F, s ∈ alph7) ∧ F.length ≤ 5 ∧
    ROk m (down (rowsOf fs) F) ∧ H fa = some (.lst vs0) ∧ Paired (ThV K H) vs0 ts ∧ ts.length + (trees m (down (rowsOf fs) F)).length ≤ 3000 ∧
    ∀ H' vs1, But fa H H' → H' fa = some (.lst vs1) → Paired (ThV K H') vs1 (ts ++ trees m (down (rowsOf fs) F)) → Q (.str (hid (.tree (held m (down (rowsOf fs) F))))) H'
abbrev nTrees : List Str := ["_law_files_here", "_law_front", "_law_found", "_law_rows", "_law_path_here", "_law_segment_here", "_law_slash", "_law_rest"]
theorem scTrees : FnScope nTrees ["_law_files_here", "_law_front", "_law_found"] (defScope sTrees) := ⟨rfl, rfl, rfl, by decide +kernel, rfl, by decide +kernel, by decide +kernel⟩
theorem trees_step {m k : Nat} (hk : 6 ≤ k) (F : GF K mg "_law_trees" sTrees) (G : Cal P w K mg base (L2.CX P w) k "_law_trees" ["_law_files_here", "_law_front", "_law_found"] (spTrees K m))
    (GT : CalF P w K mg base (L2.CX P w) 4 (mAt K (ca K "Tree") "__init__") ["self", "entries"] (spTInit K)) (GI : Cal P w K mg base CX0 5 "id_of" ["thing", "short"] (spId K) [.bl false]) (T : Kit K mg) :
    Cal P w K mg base (L2.CX P w) (k + 1) "_law_trees" ["_law_files_here", "_law_front", "_law_found"] (spTrees K (m + 1)) := by
  refine calX F scTrees (fun _ _ _ _ _ _ us hl => match us, hl with | [_, _, _], _ => rfl) (fun vs H Q E h => ?_) (fun cdv A outer s H vs Q E hr h => ?_)
  · obtain ⟨d, fa, fs, Pp, vs0, ts, rfl, _⟩ := h
    rfl
  · obtain ⟨d, fa, fs, Pp, vs0, ts, rfl, hfd, hfs, hl, hP, hPl, hro, hfa, hts, hcnt, kQ⟩ := h
    have B := T.fr
    refine ⟨_, (pss_cons (ps_set (i := 3) scTrees.nd rfl (Or.inl rfl) pe_dnewK)
        (pss_cons (ps_for (g := gName 4) (passes_of rfl) rfl (pi_list (pe_callB (call_sortedDA rfl) (by rfl) B.sorted (by decide +kernel) (pa_cons (pv 0) pa_nil))) (pg_name (i := 4) scTrees.nd rfl (Or.inl rfl)) (pss_one (ps_if (pt_val (pe_m1 PySem.F.slot_str_startswith PySem.F.type_str_startswith mt_startswith (pv 4) (pv 1))) (pss_cons (ps_asg (g := (gTup K 3 (gCons (gName 5) (gCons (gName 6) (gCons (gName 7) gNil))))) (pe_partition (pe_slice sl_str (pv 4) (po_some (pe_callB call_len_str (by rfl) B.len boot_len (pa_cons (pv 1) pa_nil))) po_none) pe_str) (pg_tup rfl (pgs_cons (pg_name (i := 5) scTrees.nd rfl (Or.inl rfl)) (pgs_cons (pg_name (i := 6) scTrees.nd rfl (Or.inl rfl)) (pgs_cons (pg_name (i := 7) scTrees.nd rfl (Or.inl rfl)) pgs_nil)))))
        (pss_one (ps_if (pt_cmpR op_eq (pv 6) pe_str (nomark _)) (pss_one (ps_dput (hu_of hr) (pv 3) (pv 5) (pe_dget (hu_of hr) (pv 0) (pv 4) (by intro _ _; rfl)) (by rfl))) (pss_one (ps_if (pt_cmp (pc_dnotin (hu_of hr) (pv 5) (pv 3))) (pss_one (ps_dput (hu_of hr) (pv 3) (pv 5) (pe_tup (pa_cons pe_str (pa_cons (pcal (E := E) G hr (by rfl) (passX (takes_of rfl rfl rfl rfl)) (pa_cons (pv 0) (pa_cons (pe_op op_add_str (pe_op op_add_str (pv 1) (pv 5)) pe_str) (pa_cons (pv 2) pa_nil)))) pa_nil))) (by rfl))) pss_nil))))) pss_nil)))
        (pss_cons (ps_expr (pe_bm PySem.F.plainAttrs_list PySem.F.slot_list_append PySem.F.type_list_append mt_append (pv 2) (pa_cons (pmake (E := E) GT T.mkT (hr.mono (Nat.le_trans (by decide : 5 ≤ 6) hk)) (by rfl) T.gT (passX (takes_of rfl rfl rfl rfl)) (pa_cons (pv 3) pa_nil)) pa_nil)))
        (pss_one (ps_ret (pcal (GI.mono (Nat.le_trans (by decide : 5 ≤ 6) hk)) hr (by rfl) pass0 (pa_cons (pe_ix ix_list (pv 2) (pe_un un_neg pe_int) (by intro _ _; rfl)) pa_nil))))))), ?_⟩
    have hfd' := hfd
    obtain ⟨kvs, hd, hdr⟩ := hfd'
    have hkl : kvs.length = fs.length := hdr.len
    have ndf : d ≠ fa := ne_of hd hfa (by intro z; cases z)
    have hB := hro.base
    intro e he
    have nef : e ≠ fa := fun z => by rw [z, hfa] at he; cases he
    have ned : e ≠ d := fun z => by rw [z, hd] at he; cases he
    have s1 : Same H (upd H e (.dK [])) := Same.new he
    refine ⟨_, rfl, d, kvs, fs.map (·.1), rfl, .inl (s1 _ _ hd), hdr.keys, by rw [List.length_map]; omega, fun ys p hperm hsort hp => ?_⟩
    obtain rfl := srt_unique hperm hsort
    have hp0 : H p = none := Same.free s1 hp
    have npe : p ≠ e := fun z => by rw [z, upd_same] at hp; cases hp
    have npf : p ≠ fa := fun z => by rw [z, hfa] at hp0; cases hp0
    have s2 : Same H (upd (upd H e (.dK [])) p (.lst ((srt (fs.map (·.1))).map V.str))) := s1.trans (Same.new hp)
    have hxl : ((srt (fs.map (·.1))).map V.str).length = fs.length := by rw [List.length_map, srt_len, List.length_map]
    refine ⟨p, rfl, ⟨_, SqL.of upd_same⟩, for_list (K := K) (a := p) (xs := (srt (fs.map (·.1))).map V.str) (fun i σ H' => (∃ x4 x5 x6 x7, σ = [some (.ref d), some (.str (fr Pp)), some (.ref fa), some (.ref e), x4, x5, x6, x7]) ∧ But fa H H' ∧ H' p = some (.lst ((srt (fs.map (·.1))).map V.str)) ∧
        (∃ ek L, H' e = some (.dK ek) ∧ DR (PairAt H') ek L ∧ TabI (entL (m - 1) (down (rowsOf fs) Pp)) (down ((rowsOf fs).take i) Pp) L ∧ L.length ≤ i) ∧
        ∃ vs1, H' fa = some (.lst vs1) ∧ Paired (ThV K H') vs1 (ts ++ (dirs (down ((rowsOf fs).take i) Pp)).flatMap fun s => trees (m - 1) (sub (down (rowsOf fs) Pp) s))) ?_ ?_ ?_ ?_⟩
    · refine ⟨⟨_, _, _, _, rfl⟩, Same.but s2 fa, upd_same, ⟨[], [], by rw [upd_ne npe.symm]; exact upd_same, .nil, .nil, Nat.le_refl _⟩, vs0, s2 _ _ hfa, ?_⟩
      show Paired _ vs0 (ts ++ [])
      rw [List.append_nil]
      exact L2.Paired.mapP hts fun _ _ q => q.same s2
    · exact fun i σ H' _ q => SqL.of q.2.2.1
    · rintro i x σ H2 hx ⟨⟨x4, x5, x6, x7, rfl⟩, b2, hp2, ⟨ek, L, he2, dr2, tab, hLi⟩, vs1, hf2, pv2⟩
      obtain ⟨z, hz, rfl⟩ : ∃ z, (srt (fs.map (·.1)))[i]? = some z ∧ x = V.str z := by
        rw [List.getElem?_map] at hx
        cases e : (srt (fs.map (·.1)))[i]? with
        | none => rw [e] at hx; cases hx
        | some z => rw [e] at hx; exact ⟨z, rfl, (Option.some.inj hx).symm⟩
      obtain ⟨sg, pr, rfl, g1, g2, g3, hm, hval, hrow⟩ := row_at alph7_nosl hfs hz
      have hi80 : i < 80 := by
        have := (List.getElem?_eq_some_iff.mp hx).1
        omega
      have htk : down ((rowsOf fs).take (i + 1)) Pp = down ((rowsOf fs).take i) Pp ++ (cutR Pp (sg, pr)).toList := by
        rw [List.take_add_one, hrow, down_app]
        show _ ++ down [(sg, pr)] Pp = _
        congr 1
      have hall : ∃ Z, down (rowsOf fs) Pp = down ((rowsOf fs).take (i + 1)) Pp ++ Z := ⟨down ((rowsOf fs).drop (i + 1)) Pp, by rw [← down_app, List.take_append_drop]⟩
      refine ⟨_, rfl, ⟨_, rfl⟩, _, rfl, _, _, rfl, rfl, _, rfl, ?_⟩
      have drH : DR (PairAt H2) kvs fs := hdr.imp fun v q h => h.butO hfa (by intro _ z; cases z) b2
      have hn1 : ∀ s ∈ sg, NoSl s := fun s hs => alph7_nosl s (g3 s hs)
      have hnP : ∀ s ∈ Pp, NoSl s := fun s hs => alph7_nosl s (hP s hs)
      cases hsw : Txt.startswith (jn sg) (fr Pp) with
      | false =>
        refine iteF ?_
        have hc : cutR Pp (sg, pr) = none := by
          cases c : cutR Pp (sg, pr) with
          | none => rfl
          | some r' =>
            obtain ⟨a1, a2, a3⟩ := cut_some.mp c
            rw [(fr_front g1 hnP hn1).mpr ⟨_, a2, a1⟩] at hsw
            cases hsw
        rw [hc] at htk
        have htk' : down ((rowsOf fs).take (i + 1)) Pp = down ((rowsOf fs).take i) Pp := by rw [htk]; exact List.append_nil _
        refine ⟨⟨_, _, _, _, rfl⟩, b2, hp2, ⟨ek, L, he2, dr2, by rw [htk']; exact tab, by omega⟩, vs1, hf2, by rw [htk']; exact pv2⟩
      | true =>
        refine iteT' ?_
        obtain ⟨r, hr0, rfl⟩ := (fr_front g1 hnP hn1).mp hsw
        have hc : cutR Pp (Pp ++ r, pr) = some (r, pr) := cut_some.mpr ⟨rfl, hr0, rfl⟩
        rw [hc] at htk
        have htk' : down ((rowsOf fs).take (i + 1)) Pp = down ((rowsOf fs).take i) Pp ++ [(r, pr)] := htk
        obtain ⟨Z, hZ⟩ := hall
        have hsl : (jn (Pp ++ r)).length ≤ 4 * (Pp ++ r).length := jn_len _ fun s hs => alph7_len s (g3 s hs)
        have hfl : (fr Pp).length ≤ 4 * Pp.length := fr_len _ fun s hs => alph7_len s (hP s hs)
        refine ⟨_, rfl, _, rfl, _, rfl, line_of (by omega), _, rfl, _, rfl, line_of (by omega), ?_⟩
        rw [cutS_front Pp hr0]
        cases r with
        | nil => exact absurd rfl hr0
        | cons x l =>
          cases l with
          | nil =>
            refine ⟨⟨_, rfl⟩, _, _, rfl, rfl, (by decide +kernel), line_of (by rw [jn_one]; have := alph7_len x (g3 x (by simp)); omega), fun T0 hT0 => ?_⟩
            have sT := Same.new (o := .tup [.str (Txt.partition (jn [x]) "/").1, .str (Txt.partition (jn [x]) "/").2.1, .str (Txt.partition (jn [x]) "/").2.2]) hT0
            refine ⟨T0, _, rfl, SqT.of upd_same, rfl, _, _, rfl, _, _, rfl, _, _, rfl, rfl, ?_⟩
            rw [partition_jn_one (hn1 x (by simp))] at sT ⊢
            refine ⟨_, rfl, rfl, _, rfl, ?_⟩
            refine iteT' ?_
            have hd3 := sT _ _ (b2 _ _ ndf hd)
            obtain ⟨v, hv, hpv⟩ := drH.val_some hval
            refine ⟨_, rfl, _, rfl, d, v, rfl, .inl ⟨kvs, .inr (jn (Pp ++ [x])), .inl hd3, rfl, hv.symm⟩, _, rfl, _, rfl, e, _, rfl, .inl ⟨ek, .inr x, sT _ _ he2, rfl, line_lt (by rw [dr2.len]; omega), rfl⟩, ?_⟩
            have hdn : dirs (down ((rowsOf fs).take (i + 1)) Pp) = dirs (down ((rowsOf fs).take i) Pp) := by rw [htk', dirs_snoc]; rfl
            refine ⟨⟨_, _, _, _, rfl⟩, But.mut (fun c o n q => sT _ _ (b2 _ _ n q)) he, by rw [upd_ne npe]; exact sT _ _ hp2, ⟨_, putS L x pr, upd_same, DR.put (dr2.imp fun v q h => PairAt.mut (u := .dK ek) (h.same sT) (sT _ _ he2) (by intro _ z; cases z)) (PairAt.mut (u := .dK ek) (hpv.same sT) (sT _ _ he2) (by intro _ z; cases z)), ?_, ?_⟩, vs1, by rw [upd_ne nef.symm]; exact sT _ _ hf2, ?_⟩
            · rw [htk']
              refine tab.file (List.mem_append_left _ (List.mem_filterMap.mpr ⟨([x], pr), ?_, rfl⟩))
              rw [hZ, htk']
              exact List.mem_append_left _ (List.mem_append_right _ List.mem_cons_self)
            · have := putS_len (l := L) (k := x) (v := pr)
              omega
            · rw [hdn]
              exact L2.Paired.mapP pv2 fun _ _ q => ThV.mut (u := .dK ek) (q.same sT) (sT _ _ he2) (by intro _ z; cases z) (by intro _ _ _ z; cases z)
          | cons y l =>
            refine ⟨⟨_, rfl⟩, _, _, rfl, rfl, (by decide +kernel), line_of (by have := jn_len (b := 3) (x :: y :: l) (fun s hs => alph7_len s (g3 s (List.mem_append_right _ hs))); rw [List.length_append] at g2; omega), fun T0 hT0 => ?_⟩
            have sT := Same.new (o := .tup [.str (Txt.partition (jn (x :: y :: l)) "/").1, .str (Txt.partition (jn (x :: y :: l)) "/").2.1, .str (Txt.partition (jn (x :: y :: l)) "/").2.2]) hT0
            refine ⟨T0, _, rfl, SqT.of upd_same, rfl, _, _, rfl, _, _, rfl, _, _, rfl, rfl, ?_⟩
            rw [partition_jn (hn1 x (by simp)) (by simp)] at sT ⊢
            refine ⟨_, rfl, rfl, _, rfl, ?_⟩
            refine iteF ?_
            have hd3 := sT _ _ (b2 _ _ ndf hd)
            have hxd : x ∈ dirs (down (rowsOf fs) Pp) := dirs_mem.mpr ⟨(x :: y :: l, pr), by rw [hZ, htk']; exact List.mem_append_left _ (List.mem_append_right _ List.mem_cons_self), rfl⟩
            have hZ' : down (rowsOf fs) Pp = down ((rowsOf fs).take i) Pp ++ ([(x :: y :: l, pr)] ++ Z) := by rw [hZ, htk', List.append_assoc]
            have hxf : x ∉ (files (down ((rowsOf fs).take i) Pp)).map (·.1) := fun z => by
              have := hB.nd
              rw [hZ', files_app, List.map_append, ← hZ'] at this
              exact (List.nodup_append.mp this).2.2 x (List.mem_append_left _ z) x hxd rfl
            have hnd : ((files (down ((rowsOf fs).take i) Pp)).map (·.1) ++ dirs (down ((rowsOf fs).take i) Pp)).Nodup := by
              have := hB.nd
              obtain ⟨t, ht⟩ := dirs_app (down ((rowsOf fs).take i) Pp) ([(x :: y :: l, pr)] ++ Z)
              rw [hZ', files_app, ht, List.map_append] at this
              rw [List.nodup_append] at this ⊢
              exact ⟨(List.nodup_append.mp this.1).1, (List.nodup_append.mp this.2.1).1, fun a ha b hb => this.2.2 a (List.mem_append_left _ ha) b (List.mem_append_left _ hb)⟩
            have hold := tab.old (x := x) hnd hxf
            have hda : dirs (down ((rowsOf fs).take (i + 1)) Pp) = addS (dirs (down ((rowsOf fs).take i) Pp)) x := by rw [htk', dirs_snoc]; rfl
            refine ⟨_, rfl, _, rfl, e, _, rfl, .inl ⟨ek, .inr x, .inl (sT _ _ he2), rfl, rfl⟩, _, rfl, ?_⟩
            have dr3 := dr2.imp fun v q h => PairAt.same h sT
            have hsome : (valV ek (.inr x)).isSome = (valS L x).isSome := dr2.isSome x
            refine ite2 (fun c => ?_) (fun c => ?_)
            · have hno : x ∉ L.map (·.1) := by
                rw [hsome] at c
                rw [← valS_none]
                cases z : valS L x with
                | none => rfl
                | some _ => rw [z] at c; cases c
              have hnd2 : x ∉ dirs (down ((rowsOf fs).take i) Pp) := fun z => hno (hold.mpr z)
              have hda' : dirs (down ((rowsOf fs).take (i + 1)) Pp) = dirs (down ((rowsOf fs).take i) Pp) ++ [x] := by
                rw [hda]
                unfold addS
                rw [if_neg hnd2]
              cases m with
              | zero => rw [hro.2.2] at hxd; cases hxd
              | succ m =>
                have hfm : (dirs (down ((rowsOf fs).take (i + 1)) Pp)).flatMap (fun s => trees m (sub (down (rowsOf fs) Pp) s)) = (dirs (down ((rowsOf fs).take i) Pp)).flatMap (fun s => trees m (sub (down (rowsOf fs) Pp) s)) ++ trees m (sub (down (rowsOf fs) Pp) x) := by rw [hda', List.flatMap_append]; simp
                have hc2 : ((dirs (down ((rowsOf fs).take (i + 1)) Pp)).flatMap (fun s => trees m (sub (down (rowsOf fs) Pp) s))).length + 1 ≤ (trees (m + 1) (down (rowsOf fs) Pp)).length := by
                  show _ ≤ (_ ++ [_]).length
                  rw [List.length_append]
                  obtain ⟨t, ht⟩ := dirs_app (down ((rowsOf fs).take (i + 1)) Pp) Z
                  rw [← hZ] at ht
                  rw [ht, List.flatMap_append, List.length_append]
                  show _ + 1 ≤ _ + _ + 1
                  omega
                rw [hfm, List.length_append] at hc2
                have h1 : (Str.ofString "/").length = 1 := by decide +kernel
                have hx3 : x.length ≤ 3 := alph7_len x (g3 x (by simp))
                refine ⟨_, rfl, _, rfl, _, rfl, _, _, rfl, rfl, line_of (by show (fr Pp).length + x.length ≤ 100000; omega), _, _, rfl, rfl, line_of (by show (fr Pp ++ x).length + (Str.ofString "/").length ≤ 100000; rw [len_app, h1]; omega), _, rfl, ?_⟩
                refine ⟨d, fa, fs, Pp ++ [x], vs1, ts ++ (dirs (down ((rowsOf fs).take i) Pp)).flatMap (fun s => trees m (sub (down (rowsOf fs) Pp) s)), by rw [fr_snoc]; rfl, ⟨kvs, hd3, drH.imp fun v q h => h.same sT⟩, hfs, hl, fun s hs => ?_, by rw [List.length_append] at g2 ⊢; simp only [List.length_cons, List.length_nil] at g2 ⊢; omega, by rw [down_snoc]; exact hro.2.2 x hxd, sT _ _ hf2, L2.Paired.mapP pv2 fun _ _ q => q.same sT, by rw [down_snoc, List.length_append]; omega, fun H4 vs4 b4 hf4 pv4 => ?_⟩
                · rcases List.mem_append.mp hs with hs | hs
                  · exact hP s hs
                  · rw [List.mem_singleton.mp hs]; exact g3 x (by simp)
                rw [down_snoc] at pv4 ⊢
                have nTf : T0 ≠ fa := fun z => by rw [z, hf2] at hT0; cases hT0
                refine ⟨(by show 2 ≤ sizeLine; exact line_of (by decide)), fun T1 hT1 => ?_⟩
                have sT1 := Same.new (o := .tup [.str "dir", .str (hid (.tree (held m (sub (down (rowsOf fs) Pp) x))))]) hT1
                have he4 := sT1 _ _ (b4 _ _ nef (sT _ _ he2))
                have hp4 := sT1 _ _ (b4 _ _ npf (sT _ _ hp2))
                refine ⟨_, rfl, _, rfl, e, _, rfl, .inl ⟨ek, .inr x, he4, rfl, line_lt (by rw [dr2.len]; omega), rfl⟩, ?_⟩
                have dr4 := dr3.imp fun v q h => (PairAt.butO h (sT _ _ hf2) (by intro _ z; cases z) b4).same sT1
                refine ⟨⟨_, _, _, _, rfl⟩, But.mut (fun c o n q => sT1 _ _ (b4 _ _ n (sT _ _ (b2 _ _ n q)))) he, by rw [upd_ne npe]; exact hp4, ⟨_, putS L x ("dir", hid (.tree (held m (sub (down (rowsOf fs) Pp) x)))), upd_same, DR.put (dr4.imp fun v q h => PairAt.mut (u := .dK ek) h he4 (by intro _ z; cases z)) (PairAt.mut (u := .dK ek) ⟨T1, rfl, upd_same⟩ he4 (by intro _ z; cases z)), ?_, ?_⟩, vs4, by rw [upd_ne nef.symm]; exact sT1 _ _ hf4, ?_⟩
                · rw [htk']
                  exact tab.dirN (List.mem_append_right _ (List.mem_map.mpr ⟨x, hxd, rfl⟩))
                · have := putS_len (l := L) (k := x) (v := (("dir" : Str), hid (.tree (held m (sub (down (rowsOf fs) Pp) x)))))
                  omega
                · show Paired _ vs4 (ts ++ (dirs (down ((rowsOf fs).take (i + 1)) Pp)).flatMap fun s => trees m (sub (down (rowsOf fs) Pp) s))
                  rw [hfm, ← List.append_assoc]
                  exact L2.Paired.mapP pv4 fun _ _ q => ThV.mut (u := .dK ek) (q.same sT1) he4 (by intro _ z; cases z) (by intro _ _ _ z; cases z)
            · have hin : x ∈ L.map (·.1) := by
                rw [hsome] at c
                refine Classical.byContradiction fun z => c ?_
                rw [valS_none.mpr z]
                rfl
              have hda' : dirs (down ((rowsOf fs).take (i + 1)) Pp) = dirs (down ((rowsOf fs).take i) Pp) := by
                rw [hda]
                unfold addS
                rw [if_pos (hold.mp hin)]
              refine ⟨⟨_, _, _, _, rfl⟩, fun c o n q => sT _ _ (b2 _ _ n q), sT _ _ hp2, ⟨ek, L, sT _ _ he2, dr3, by rw [htk']; exact tab.dirO hin, by omega⟩, vs1, sT _ _ hf2, ?_⟩
              rw [hda']
              exact L2.Paired.mapP pv2 fun _ _ q => q.same sT
    rintro σ H2 ⟨⟨x4, x5, x6, x7, rfl⟩, b2, hp2, ⟨ek, L, he2, dr2, tab, hLi⟩, vs1, hf2, pv2⟩
    rw [hxl, show fs.length = (rowsOf fs).length from (rows_get fs).1.symm, List.take_length] at tab pv2
    have hmem := tab.done hB
    have hnE : ((entL (m - 1) (down (rowsOf fs) Pp)).map (·.1)).Nodup := by rw [entL_keys]; exact hB.nd
    have hents : ents L = held m (down (rowsOf fs) Pp) := by rw [held_eq hro]; exact ents_congr tab.nd hnE hmem
    have hlen : L.length = (entL (m - 1) (down (rowsOf fs) Pp)).length := len_of_same tab.nd hnE hmem
    have h30 : L.length ≤ 30 := by
      rw [hlen, entL_len]
      cases m with
      | zero => exact hro.2.1
      | succ m => exact hro.2.1
    have hLok : ∀ e ∈ L, EntOk e := fun e he => entL_ok hB e (tab.mem e he)
    refine ⟨_, rfl, .inl ⟨rfl, _, SqL.of hf2⟩, _, rfl, fun x dx hx hdx hne => ?_⟩
    have s6 : Same H2 (upd (upd H2 dx (.own x)) x (.ins (ca K "Tree") dx [])) := (Same.new hdx).trans (Same.new (by rw [upd_ne hne.symm]; exact hx))
    refine ⟨x, e, dx, ek, L, rfl, upd_same, s6 _ _ he2, dr2.imp fun v q h => h.same s6, tab.nd, hLok, by omega, fun h => absurd h (by omega), fun _ H6 t rs s7 hx6 ht6 hp6 => ?_⟩
    have sW : Same H2 H6 := fun c o hc6 => s7 c o (ne_of_none hc6 hx) (s6 _ _ hc6)
    have hf6 := sW _ _ hf2
    have nxf : x ≠ fa := fun z => by rw [z, hf2] at hx; cases hx
    have hvl : vs1.length ≤ 3000 := by
      rw [paired_len pv2, List.length_append]
      cases m with
      | zero => rw [hro.2.2]; show _ + 0 ≤ _; omega
      | succ m =>
        have : (trees (m + 1) (down (rowsOf fs) Pp)).length = ((dirs (down (rowsOf fs) Pp)).flatMap fun s => trees m (sub (down (rowsOf fs) Pp) s)).length + 1 := by
          show (_ ++ [_]).length = _
          rw [List.length_append]; rfl
        show _ + ((dirs (down (rowsOf fs) Pp)).flatMap fun s => trees m (sub (down (rowsOf fs) Pp) s)).length ≤ _
        omega
    refine ⟨rfl, fa, vs1, _, rfl, rfl, hf6, line_lt (by omega), ?_⟩
    have th6 : TreeAt K H6 x (held m (down (rowsOf fs) Pp)) := ⟨dx, t, rs, hx6, ht6, by rw [← hents]; exact hp6⟩
    have th7 : ThAt K (upd H6 fa (.lst (vs1 ++ [.ref x]))) x (.tree (held m (down (rowsOf fs) Pp))) := ThAt.mut (t := .tree _) hf6 (by intro _ z; cases z) (by intro _ _ _ z; cases z) th6
    refine ⟨_, rfl, _, rfl, fa, _, -1, .ref x, rfl, rfl, SqL.of upd_same, atI_last _ _, ?_⟩
    refine ⟨x, .tree (held m (down (rowsOf fs) Pp)), rfl, th7, held_ok hro, fun H7 s8 => ?_⟩
    refine kQ H7 (vs1 ++ [.ref x]) (fun c o n q => s8 _ _ (by rw [upd_ne n]; exact sW _ _ (b2 _ _ n q))) (s8 _ _ upd_same) ?_
    have hts : ts ++ trees m (down (rowsOf fs) Pp) = (ts ++ (dirs (down (rowsOf fs) Pp)).flatMap fun s => trees (m - 1) (sub (down (rowsOf fs) Pp) s)) ++ [.tree (held m (down (rowsOf fs) Pp))] := by
      cases m with
      | zero => rw [hro.2.2]; simp [trees]
      | succ m => simp [trees]
    rw [hts]
    exact paired_snoc ⟨x, rfl, th7.same s8⟩ (L2.Paired.mapP pv2 fun _ _ q => ThV.same (ThV.mut (u := .lst vs1) (q.same sW) hf6 (by intro _ z; cases z) (by intro _ _ _ z; cases z)) s8)
theorem ok_trees (F : GF K mg "_law_trees" sTrees) (GT : CalF P w K mg base (L2.CX P w) 4 (mAt K (ca K "Tree") "__init__") ["self", "entries"] (spTInit K)) (GI : Cal P w K mg base CX0 5 "id_of" ["thing", "short"] (spId K) [.bl false]) (T : Kit K mg) :
    ∀ n, Cal P w K mg base (L2.CX P w) (6 + n) "_law_trees" ["_law_files_here", "_law_front", "_law_found"] (spTrees K n)
  | 0 => cal_false F (fun _ _ _ _ _ _ us hl => match us, hl with | [_, _, _], _ => rfl)
  | n + 1 => trees_step (Nat.le_add_right 6 n) F (ok_trees F GT GI T n) GT GI T
end
end FK

/-! Forkhaul k08: _law_clash. -/
namespace FK
open PySem PySem.Spec PyProof.Rows L2 TL
open PySem.W (Frag)
structure KnI (ts : List Th) (ks : List (Str × Th)) : Prop where
  get : ∀ t ∈ ts, valS ks (hid t) = some t
  id : ∀ x ∈ ks, x.1 = hid x.2 ∧ x.2 ∈ ts
theorem KnI.nil : KnI [] [] := ⟨fun t h => (by cases h), fun x h => (by cases h)⟩
theorem KnI.put {ts : List Th} {ks : List (Str × Th)} (h : KnI ts ks) {t : Th} (he : valS ks (hid t) = none ∨ valS ks (hid t) = some t) : KnI (ts ++ [t]) (putS ks (hid t) t) := by
  refine ⟨fun u hu => ?_, fun x hx => ?_⟩
  · rw [valS_put]
    rcases List.mem_append.mp hu with hu | hu
    · have := h.get u hu
      by_cases c : hid u = hid t
      · rw [if_pos c]
        rw [c] at this
        rcases he with he | he
        · rw [he] at this; cases this
        · rw [he] at this; exact this
      · rw [if_neg c]; exact this
    · rw [List.mem_singleton.mp hu, if_pos rfl]
  · rcases putS_mem hx with rfl | hx
    · exact ⟨rfl, List.mem_append_right _ List.mem_cons_self⟩
    · exact ⟨(h.id x hx).1, List.mem_append_left _ (h.id x hx).2⟩
theorem KnI.inj {ts : List Th} {ks : List (Str × Th)} (h : KnI ts ks) : Inj (· ∈ ts) := fun t u ht hu e => by
  have h1 := h.get t ht
  rw [e, h.get u hu] at h1
  exact (Option.some.inj h1).symm
section
variable {P : Program} {w : World} {K : Frag} {mg : Str → Option Value} {base : Heap}
def spLClash (K : Frag) : Sp := fun vs H Q _ => ∃ la xs ts, vs = [.ref la] ∧ SqL K H la xs ∧ (∀ H', Same H H' → SqL K H' la xs) ∧ Paired (ThV K H) xs ts ∧ (∀ t ∈ ts, ThGood t) ∧ ts.length ≤ 5000 ∧ ∀ b H', Same H H' → (b = false → Inj (· ∈ ts)) → Q (.bl b) H'
abbrev nLClash : List Str := ["_law_things", "_law_known", "_law_thing", "_law_name"]
theorem scLClash : FnScope nLClash ["_law_things"] (defScope sLClash) := ⟨rfl, rfl, rfl, by decide +kernel, rfl, by decide +kernel, by decide +kernel⟩
theorem ok_clashL (F : GF K mg "_law_clash" sLClash) (GI : Cal P w K mg base CX0 5 "id_of" ["thing", "short"] (spId K) [.bl false]) (D : EqDefs P w K mg base) (T : Kit K mg) :
    Cal P w K mg base CX0 6 "_law_clash" ["_law_things"] (spLClash K) := by
  refine cal0 F scLClash (fun _ _ _ _ _ _ us hl => match us, hl with | [_], _ => rfl) (fun vs H Q E h => ?_) (fun cdv A outer s H vs Q E hr h => ?_)
  · obtain ⟨la, xs, ts, rfl, _⟩ := h
    rfl
  · obtain ⟨la, xs, ts, rfl, hla, hlaS, hts, hgood, hl, kQ⟩ := h
    refine ⟨_, pss_cons (ps_set (i := 1) scLClash.nd rfl (Or.inl rfl) pe_dnewK)
      (pss_cons (ps_for (g := gName 2) PassesOwn.never rfl (pi_list (pv 0)) (pg_name (i := 2) scLClash.nd rfl (Or.inl rfl))
        (pss_cons (ps_set (i := 3) scLClash.nd rfl (Or.inl rfl) (pcal GI hr (by rfl) pass0 (pa_cons (pv 2) pa_nil)))
        (pss_cons (ps_if (pt_not (pt_cmpR (op_eqObj T D hr (by decide)) (pe_dget2 (hu_of hr) (pv 1) (pv 3) (pv 2) ⟨rfl, rfl, rfl, rfl⟩) (pv 2) (nomark _))) (pss_one (ps_ret pe_bl)) pss_nil)
        (pss_one (ps_dput (hu_of hr) (pv 1) (pv 3) (pv 2) (by rfl))))))
      (pss_one (ps_ret pe_bl))), ?_⟩
    intro e he
    have s1 : Same H (upd H e (.dK [])) := Same.new he
    have hlen := paired_len hts
    refine ⟨_, rfl, la, rfl, ⟨_, hlaS _ s1⟩, for_list (K := K) (a := la) (xs := xs) (fun i σ H' => (∃ x2 x3, σ = [some (.ref la), some (.ref e), x2, x3]) ∧ Same H H' ∧ ∃ ek ks, H' e = some (.dK ek) ∧ DR (ThV K H') ek ks ∧ KnI (ts.take i) ks ∧ ks.length ≤ i) ?_ ?_ ?_ ?_⟩
    · exact ⟨⟨_, _, rfl⟩, s1, [], [], upd_same, .nil, .nil, Nat.le_refl _⟩
    · exact fun i σ H' _ q => hlaS _ q.2.1
    · rintro i x σ H2 hx ⟨⟨x2, x3, rfl⟩, s2, ek, ks, he2, dr2, kn, hki⟩
      obtain ⟨t, ht, a, rfl, hta⟩ := paired_get hts hx
      have htm := List.mem_of_getElem? ht
      have hi : i < 5000 := by
        have := (List.getElem?_eq_some_iff.mp hx).1
        omega
      have hta2 := ThAt.same s2 hta
      have htk : ts.take (i + 1) = ts.take i ++ [t] := by rw [List.take_add_one, ht]; rfl
      refine ⟨_, rfl, a, t, rfl, hta2, hgood t htm, fun H3 s3 => ?_⟩
      have hta3 := ThAt.same s3 hta2
      have he3 := s3 _ _ he2
      have dr3 : DR (ThV K H3) ek ks := dr2.imp fun v u q => q.same s3
      have hget : ∃ c u, ThAt K H3 c u ∧ ThGood u ∧ (valV ek (.inr (hid t))).getD (.ref a) = .ref c ∧ (u = t ↔ (valS ks (hid t) = none ∨ valS ks (hid t) = some t)) := by
        rcases dr3.val (hid t) with ⟨e1, e2⟩ | ⟨v, u, e1, e2, c, rfl, hq⟩
        · exact ⟨a, t, hta3, hgood t htm, by rw [e1]; rfl, fun _ => .inl e2, fun _ => rfl⟩
        · refine ⟨c, u, hq, hgood u (List.mem_of_mem_take (kn.id _ (valS_some e2)).2), by rw [e1]; rfl, fun h => .inr (by rw [e2, h]), ?_⟩
          rintro (h | h)
          · rw [e2] at h; cases h
          · rw [e2] at h; exact Option.some.inj h
      obtain ⟨c, u, hc, hgu, ec, hut⟩ := hget
      refine ⟨_, rfl, e, rfl, .inl ⟨ek, .inl he3⟩, _, rfl, _, rfl, _, .inl ⟨ek, .inr (hid t), .inl he3, rfl, rfl⟩, ?_⟩
      rw [ec]
      refine ⟨_, rfl, c, a, u, t, rfl, rfl, hc, hta3, hgu, hgood t htm, _, rfl, ?_⟩
      by_cases cc : u = t
      · rw [decide_eq_true cc]
        refine iteF ?_
        refine ⟨_, rfl, _, rfl, _, rfl, e, _, rfl, .inl ⟨ek, .inr (hid t), he3, rfl, line_lt (by rw [dr3.len]; omega), rfl⟩, ⟨_, _, rfl⟩, (s2.trans s3).mut he, _, putS ks (hid t) t, upd_same, ?_, ?_, ?_⟩
        · exact DR.put (dr3.imp fun v u q => ThV.mut (u := .dK ek) q he3 (by intro _ z; cases z) (by intro _ _ _ z; cases z)) (ThV.mut (u := .dK ek) ⟨a, rfl, hta3⟩ he3 (by intro _ z; cases z) (by intro _ _ _ z; cases z))
        · rw [htk]; exact kn.put (hut.mp cc)
        · have := putS_len (l := ks) (k := hid t) (v := t)
          omega
      · rw [decide_eq_false cc]
        refine iteT' ?_
        exact kQ true _ (s2.trans s3) (fun z => by cases z)
    · rintro σ H2 ⟨_, s2, ek, ks, he2, dr2, kn, hki⟩
      rw [hlen, List.take_length] at kn
      exact kQ false _ s2 fun _ => kn.inj
end
end FK

/-! Forkhaul k08: _law_put, _law_read. -/
namespace FK
open PySem PySem.Spec PyProof.Rows L2 TL
open PySem.W (Frag)
/-! o.m(e, ..) within a try (from the worked proof 30_by_hand) -/
def tMethW (C : Addr) (m : Str) (sp : Sp) (E : L2.St → XK) (ta : TE) (t : TA) : TE := fun σ H Q => ta σ H fun x H1 => ∃ a dx fs, x = .ref a ∧ H1 a = some (.ins C dx fs) ∧ fs.lookup m = none ∧ t σ H1 fun vs H2 => sp (x :: vs) H2 Q (E σ)
theorem pe_methW {X : Cx} {CX : CXT} {k : Nat} {f C : Addr} {fd : FuncData} {ps : List Str} {sp : Sp} {E : L2.St → XK} {m : Str} {pos apos : Pos} {e o : Expr} {es : List Expr} {ta : TE} {t : TA} {pl : Sem Bool} (he : PE X o ta) (c : Cls X.K C) (hm : Meth X.K C m f)
    (F : FnOk X.prog X.w X.K X.mg X.base CX k f fd ps sp) (hr : Room k X.A) (hb : Binds X.K fd ps []) (hx : ∀ σ, PassesAt CX X σ (E σ)) (ha : PA X (e :: es) t)
    (hst : starEach (e :: es) X.env = (false, eval e X.env) :: starEach es X.env := by rfl) (hpl : (backTo pos (starEach es X.env)).any (·.1) = false := by rfl)
    (ht : eval (.Call (.Attribute o m apos) (e :: es) [] pos) X.env = (do
      let ov ← eval o X.env
      standAt apos.atName
      let (f, first) ← holding [ov] (getMethod ov m pl)
      callWith pos f first (backTo pos (starEach (e :: es) X.env)) (backToKw pos (keywordEach [] X.env))) := by rfl) :
    PE X (.Call (.Attribute o m apos) (e :: es) [] pos) (tMethW C m sp E ta t) := by
  refine ⟨fun pins s σ H Q I h => ?_⟩
  refine PySem.W.methodCall_KW (pl := pl) (thn (he.run pins s σ H _ I h) fun u s1 ⟨x, H1, I1, rx, a, dx, fs, ex, ea, l, q⟩ => ?_) ht
  subst ex
  obtain rfl : u = Value.ref a := rx
  refine getmeth_ok I1 ea c hm l ?_
  refine PySem.W.callWith_K (first := [.ref a]) (h₀ := X.base) I.ok.mod.kin hm.kp (thn (ha.run pos pins s1 σ H1 _ I1 q) fun us s2 ⟨vs, H2, I2, r, q2⟩ => ⟨I2.kIn, ?_⟩) hst hpl
  exact run_fnS (us := .ref a :: us) (vs := .ref a :: vs) F hr hb (hx σ) I2 (.cons rfl r) q2
/-- what the clauses of the law's two readers ask of the exceptions' classes -/
structure Exm (K : Frag) : Prop where
  pP : PySem.W.exmOne K (.ref (ca K "BadPath")) (.ref (ca K "BadPath")) = some true
  nP : PySem.W.exmOne K (.ref (ca K "BadName")) (.ref (ca K "BadPath")) = some false
  nN : PySem.W.exmOne K (.ref (ca K "BadName")) (.ref (ca K "BadName")) = some true
  xX : PySem.W.exmOne K (.ref (ca K "NoObject")) (.ref (ca K "NoObject")) = some true
  oX : PySem.W.exmOne K (.ref (ca K "BadObject")) (.ref (ca K "NoObject")) = some false
  oO : PySem.W.exmOne K (.ref (ca K "BadObject")) (.ref (ca K "BadObject")) = some true
  fX : XfC K (ca K "NoObject")
  fO : XfC K (ca K "BadObject")
  hX : PySem.W.findIn K (.ref (ca K "NoObject")) "name" = some none
  hO : PySem.W.findIn K (.ref (ca K "BadObject")) "at" = some none
theorem spPutF.mono {K : Frag} {n : Nat} {vs : List V} {H : Hp} {Q Q' : VK} {E E' : XK} (h : spPutF K n vs H Q E) (hq : ∀ v H', Q v H' → Q' v H') (he : ∀ c d H', E c d H' → E' c d H') : spPutF K n vs H Q' E' := by
  obtain ⟨a, kd, ks, v, e, hst, hkl, hc⟩ := h
  refine ⟨a, kd, ks, v, e, hst, hkl, ?_⟩
  rcases hc with ⟨d, fs, U, h1, h2, h3, h4, h5, h6⟩ | ⟨d, kvs, os, h1, h2, h3, h4, h5⟩ | ⟨t, h1, h2, h3⟩ | ⟨d, rk, os, h1, h2, h3, h4, h5, h6⟩
  · refine .inl ⟨d, fs, U, h1, h2, h3, h4, h5, ?_⟩
    rcases h6 with ⟨h6, h7, h8, h9⟩ | ⟨h6, h7, h8, h9⟩
    · exact .inl ⟨h6, h7, h8, fun H' kd' q1 q2 q3 => hq _ _ (h9 H' kd' q1 q2 q3)⟩
    · exact .inr ⟨h6, h7, h8, fun H' dd s => he _ _ _ (h9 H' dd s)⟩
  · exact .inr (.inl ⟨d, kvs, os, h1, h2, h3, fun q H' dd s => he _ _ _ (h4 q H' dd s), fun q H' dd s => he _ _ _ (h5 q H' dd s)⟩)
  · exact .inr (.inr (.inl ⟨t, h1, h2, fun H' dd s => he _ _ _ (h3 H' dd s)⟩))
  · exact .inr (.inr (.inr ⟨d, rk, os, h1, h2, h3, h4, h5, fun H' dd s => he _ _ _ (h6 H' dd s)⟩))
section
variable {P : Program} {w : World} {K : Frag} {mg : Str → Option Value} {base : Heap}
/-- what _law_put tells: store a, files v; the wish for a told id, and for the two errors -/
def spLPut (K : Frag) (n : Nat) : Sp := fun vs H Q _ => ∃ a v, vs = [.ref a, v] ∧ spPutF K n [.ref a, v] H (fun r H' => ∀ q, H' q = none → Q (.ref q) (upd H' q (.tup [.str "told", r])))
  (fun cls _ H' => (cls = .ref (ca K "BadPath") → ∀ q, H' q = none → Q (.ref q) (upd H' q (.tup [.str "path", .non]))) ∧ (cls = .ref (ca K "BadName") → ∀ q, H' q = none → Q (.ref q) (upd H' q (.tup [.str "name", .non]))) ∧ (cls = .ref (ca K "BadPath") ∨ cls = .ref (ca K "BadName")))
abbrev nLPut : List Str := ["_law_store", "_law_files_here"]
theorem scLPut : FnScope nLPut ["_law_store", "_law_files_here"] (defScope sLPut) := ⟨rfl, rfl, rfl, by decide +kernel, rfl, by decide +kernel, by decide +kernel⟩
theorem ok_lput (n : Nat) (F : GF K mg "_law_put" sLPut) (G : CalF P w K mg base (L2.CX P w) (8 + n) (mAt K (ca K "Store") "put_files") ["self", "files"] (spPutF K n)) (mP : Meth K (ca K "Store") "put_files" (mAt K (ca K "Store") "put_files")) (T : Kit K mg) (X : Exs P w K mg base) (M : Exm K) :
    Cal P w K mg base CX0 (9 + n) "_law_put" ["_law_store", "_law_files_here"] (spLPut K n) := by
  have e9 : 9 + n = (8 + n) + 1 := by omega
  rw [e9]
  refine cal0 F scLPut (fun _ _ _ _ _ _ us hl => match us, hl with | [_, _], _ => rfl) (fun vs H Q E h => ?_) (fun cdv A outer s H vs Q E hr h => ?_)
  · obtain ⟨a, v, rfl, _⟩ := h
    rfl
  · obtain ⟨a, v, rfl, h⟩ := h
    obtain ⟨fd, FO, FBi⟩ := calf_nil G
    refine ⟨_, pss_one (ps_try_many (tb := fun W => tRet (tTup (tCons (tC (.str "told")) (tCons (tMethW (ca K "Store") "put_files" (spPutF K n) (WE W) (tVar 0) (tCons (tVar 1) tNil)) tNil))))
      (l := [(.ref (ca K "BadPath"), fun _ _ _ => tRet (tTup (tCons (tC (.str "path")) (tCons (tC .non) tNil)))), (.ref (ca K "BadName"), fun _ _ _ => tRet (tTup (tCons (tC (.str "name")) (tCons (tC .non) tNil))))]) (Wout := fun _ _ _ _ => False) rfl rfl takes_none5
      (fun W pn xe tk _ => pss_one (ps_ret (pe_tup (pa_cons pe_str (pa_cons (pe_methW (pv 0) T.cS mP FO hr FBi (fun σ => passAt tk σ) (pa_cons (pv 1) pa_nil)) pa_nil)))))
      (.cons ⟨by rfl, by decide, .inl X.gP⟩ (fun _ _ _ _ _ _ _ => pss_one (ps_ret (pe_tup (pa_cons pe_str (pa_cons pe_non pa_nil)))))
      (.cons ⟨by rfl, by decide, .inl X.gN⟩ (fun _ _ _ _ _ _ _ => pss_one (ps_ret (pe_tup (pa_cons pe_str (pa_cons pe_non pa_nil))))) .nil))), ?_⟩
    obtain ⟨dx, kd, kvs, ha⟩ : ∃ dx kd kvs, H a = some (.ins (ca K "Store") dx (stF kd)) ∧ H kd = some (.dK kvs) := by
      obtain ⟨a', kd, ks, v', e, ⟨dx, kvs, h1, h2, _⟩, _⟩ := h
      injection e with e _
      injection e with e
      subst e
      exact ⟨dx, kd, kvs, h1, h2⟩
    refine ⟨_, rfl, a, dx, stF kd, rfl, ha.1, rfl, _, rfl, ?_⟩
    dsimp only [tNil]
    refine spPutF.mono h (fun r H' q => ?_) (fun c d H' q => ?_)
    · exact ⟨(by show 2 ≤ sizeLine; exact line_of (by decide)), fun p hp => q p hp⟩
    · obtain ⟨q1, q2, q3⟩ := q
      rcases q3 with rfl | rfl
      · exact ⟨true, M.pP, fun _ x hx => ⟨(by show 2 ≤ sizeLine; exact line_of (by decide)), fun p hp => q1 rfl p hp⟩, fun z => (by cases z)⟩
      · exact ⟨false, M.nP, fun z => (by cases z), fun _ => ⟨true, M.nN, fun _ x hx => ⟨(by show 2 ≤ sizeLine; exact line_of (by decide)), fun p hp => q2 rfl p hp⟩, fun z => (by cases z)⟩⟩
/-- what _law_read tells -/
def spLRead (K : Frag) : Sp := fun vs H Q _ => ∃ a v, vs = [.ref a, v] ∧ spFiles K [.ref a, v] H (fun r H' => ∀ q, H' q = none → Q (.ref q) (upd H' q (.tup [.str "told", r])))
  (fun cls d H' => ∃ dd, d = some dd ∧ ((cls = .ref (ca K "NoObject") ∧ ∃ u, H' dd = some (.xd (fsName u)) ∧ ∀ q, H' q = none → Q (.ref q) (upd H' q (.tup [.str "absent", u]))) ∨
    (cls = .ref (ca K "BadObject") ∧ H' dd = some (.xd (fsAt (.int 0))) ∧ ∀ q, H' q = none → Q (.ref q) (upd H' q (.tup [.str "other", .int 0])))))
abbrev nLRead : List Str := ["_law_store", "_law_name", "e"]
theorem scLRead : FnScope nLRead ["_law_store", "_law_name"] (defScope sLRead) := ⟨rfl, rfl, rfl, by decide +kernel, rfl, by decide +kernel, by decide +kernel⟩
theorem spFiles.mono {K : Frag} {vs : List V} {H : Hp} {Q Q' : VK} {E E' : XK} (h : spFiles K vs H Q E) (hq : ∀ v H', Q v H' → Q' v H') (he : ∀ c d H', E c d H' → E' c d H') : spFiles K vs H Q' E' := by
  obtain ⟨a, kd, ks, v, o, n, F, W, e, h1, h2, h3, h4, hc⟩ := h
  refine ⟨a, kd, ks, v, o, n, F, W, e, h1, h2, h3, h4, ?_⟩
  rcases hc with ⟨h5, h6⟩ | ⟨h5, h6, h7⟩ | ⟨v, h5, h6, h7⟩ | ⟨x, y, r, h5, h6, h7, h8⟩
  · exact .inl ⟨h5, fun H' d q1 q2 q3 => hq _ _ (h6 H' d q1 q2 q3)⟩
  · exact .inr (.inl ⟨h5, h6, fun H' dd q1 q2 => he _ _ _ (h7 H' dd q1 q2)⟩)
  · exact .inr (.inr (.inl ⟨v, h5, h6, fun H' dd q1 q2 => he _ _ _ (h7 H' dd q1 q2)⟩))
  · exact .inr (.inr (.inr ⟨x, y, r, h5, h6, h7, fun H' dd q1 q2 => he _ _ _ (h8 H' dd q1 q2)⟩))
theorem ok_lread (F : GF K mg "_law_read" sLRead) (G : CalF P w K mg base (L2.CX P w) 6 (mAt K (ca K "Store") "files_of") ["self", "name"] (spFiles K)) (mF : Meth K (ca K "Store") "files_of" (mAt K (ca K "Store") "files_of")) (T : Kit K mg) (X : Exs P w K mg base) (M : Exm K) :
    Cal P w K mg base CX0 7 "_law_read" ["_law_store", "_law_name"] (spLRead K) := by
  refine cal0 F scLRead (fun _ _ _ _ _ _ us hl => match us, hl with | [_, _], _ => rfl) (fun vs H Q E h => ?_) (fun cdv A outer s H vs Q E hr h => ?_)
  · obtain ⟨a, v, rfl, _⟩ := h
    rfl
  · obtain ⟨a, v, rfl, h⟩ := h
    obtain ⟨fd, FO, FBi⟩ := calf_nil G
    refine ⟨_, pss_one (ps_try_asMany (tb := fun W => tRet (tTup (tCons (tC (.str "told")) (tCons (tMethW (ca K "Store") "files_of" (spFiles K) (WE W) (tVar 0) (tCons (tVar 1) tNil)) tNil))))
      (l := [(.ref (ca K "NoObject"), 2, fun a cls d => tRet (tTup (tCons (tC (.str "absent")) (tCons (tXf a cls d (ca K "NoObject") "name" (tVar 2)) tNil)))), (.ref (ca K "BadObject"), 2, fun a cls d => tRet (tTup (tCons (tC (.str "other")) (tCons (tXf a cls d (ca K "BadObject") "at" (tVar 2)) tNil))))]) (Wout := fun _ _ _ _ => False) scLRead.nd rfl rfl takes_none5
      (fun W pn xe tk _ => pss_one (ps_ret (pe_tup (pa_cons pe_str (pa_cons (pe_methW (pv 0) T.cS mF FO hr FBi (fun σ => passAt tk σ) (pa_cons (pv 1) pa_nil)) pa_nil)))))
      (.cons rfl rfl ⟨by rfl, by decide, .inl X.gX⟩ (fun _ _ _ _ _ hz hf => pss_one (ps_ret (pe_tup (pa_cons pe_str (pa_cons (pe_xf M.fX M.hX hz hf (pv 2)) pa_nil)))))
      (.cons rfl rfl ⟨by rfl, by decide, .inl X.gO⟩ (fun _ _ _ _ _ hz hf => pss_one (ps_ret (pe_tup (pa_cons pe_str (pa_cons (pe_xf M.fO M.hO hz hf (pv 2)) pa_nil))))) .nil))), ?_⟩
    obtain ⟨dx, kd, ha⟩ : ∃ dx kd, H a = some (.ins (ca K "Store") dx (stF kd)) := by
      obtain ⟨a', kd, ks, v', o, n, F, W, e, ⟨dx, kvs, h1, h2, _⟩, _⟩ := h
      injection e with e _
      injection e with e
      subst e
      exact ⟨dx, kd, h1⟩
    refine ⟨_, rfl, a, dx, stF kd, rfl, ha, rfl, _, rfl, ?_⟩
    dsimp only [tNil]
    refine spFiles.mono h (fun r H' q => ?_) (fun c d H' q => ?_)
    · exact ⟨(by show 2 ≤ sizeLine; exact line_of (by decide)), fun p hp => q p hp⟩
    · obtain ⟨dd, rfl, ⟨rfl, u, hd, q⟩ | ⟨rfl, hd, q⟩⟩ := q
      · exact ⟨true, M.xX, fun _ x hx => ⟨_, rfl, rfl, rfl, dd, _, u, rfl, hd, rfl, (by show 2 ≤ sizeLine; exact line_of (by decide)), fun p hp => q p hp⟩, fun z => (by cases z)⟩
      · exact ⟨false, M.oX, fun z => (by cases z), fun _ => ⟨true, M.oO, fun _ x hx => ⟨_, rfl, rfl, rfl, dd, _, _, rfl, hd, rfl, (by show 2 ≤ sizeLine; exact line_of (by decide)), fun p hp => q p hp⟩, fun z => (by cases z)⟩⟩
end
end FK

/-! Forkhaul k08: _law_tree_right. -/
namespace FK
open PySem PySem.Spec PyProof.Rows L2 TL
open PySem.W (Frag)
/-! ### the paths below a front -/
def cutB (F : List Str) (f : Str × (Str × Str)) : Option (Str × (Str × Str)) := if Txt.startswith f.1 (fr F) = true then some (cutS f.1 (some ((fr F).length : Int)) none, f.2) else none
theorem cutB_some {A : List Str} (hA : ∀ s ∈ A, NoSl s) {m : Nat} {fs : Fls} (h : LFiles A m fs) {F : List Str} (hF : ∀ s ∈ F, NoSl s) {f b : Str × (Str × Str)} (hf : f ∈ fs) (e : cutB F f = some b) :
    ∃ r, r ≠ [] ∧ (∀ s ∈ F ++ r, s ∈ A) ∧ (F ++ r).length ≤ m ∧ f.1 = jn (F ++ r) ∧ b = (jn r, f.2) := by
  obtain ⟨sg, e1, g1, g2, g3⟩ := h.seg f hf
  unfold cutB at e
  by_cases c : Txt.startswith f.1 (fr F) = true
  · rw [if_pos c] at e
    rw [e1] at c
    obtain ⟨r, hr, rfl⟩ := (fr_front g1 hF fun s hs => hA s (g3 s hs)).mp c
    refine ⟨r, hr, g3, g2, e1, ?_⟩
    rw [e1, cutS_front F hr] at e
    exact (Option.some.inj e).symm
  · rw [if_neg c] at e; cases e
theorem cutB_of {A : List Str} (hA : ∀ s ∈ A, NoSl s) {F r : List Str} (hr : r ≠ []) (h : ∀ s ∈ F ++ r, s ∈ A) {p : Str × Str} : cutB F (jn (F ++ r), p) = some (jn r, p) := by
  unfold cutB
  rw [if_pos ((fr_front (by simp [hr]) (fun s hs => hA s (h s (List.mem_append_left _ hs))) (fun s hs => hA s (h s hs))).mpr ⟨r, hr, rfl⟩)]
  show some (cutS (jn (F ++ r)) _ _, p) = _
  rw [cutS_front F hr]
theorem rows_mem {A : List Str} (hA : ∀ s ∈ A, NoSl s) {m : Nat} {fs : Fls} (h : LFiles A m fs) {sg : List Str} {p : Str × Str} : (sg, p) ∈ rowsOf fs ↔ sg ≠ [] ∧ (∀ s ∈ sg, s ∈ A) ∧ sg.length ≤ m ∧ (jn sg, p) ∈ fs := by
  constructor
  · intro hm
    obtain ⟨i, hi⟩ := List.getElem?_of_mem hm
    have hl : i < (srt (fs.map (·.1))).length := by
      have := (List.getElem?_eq_some_iff.mp hi).1
      rw [(rows_get fs).1] at this
      rw [srt_len, List.length_map]
      exact this
    obtain ⟨sg', p', e1, g1, g2, g3, g4, g5, g6⟩ := row_at hA h (List.getElem?_eq_getElem hl)
    rw [hi] at g6
    have := Option.some.inj g6
    injection this with e2 e3
    subst e2 e3
    rw [e1] at g4
    exact ⟨g1, g3, g2, g4⟩
  · rintro ⟨h1, h2, h3, hm⟩
    have hz : jn sg ∈ srt (fs.map (·.1)) := srt_mem.mpr (List.mem_map_of_mem hm)
    obtain ⟨i, hi⟩ := List.getElem?_of_mem hz
    obtain ⟨sg', p', e1, g1, g2, g3, g4, g5, g6⟩ := row_at hA h hi
    have e2 := jn_inj h1 g1 (fun s hs => hA s (h2 s hs)) (fun s hs => hA s (g3 s hs)) e1
    subst e2
    have := valS_of_mem h.nd hm
    rw [g5] at this
    rw [Option.some.inj this] at g6
    exact List.mem_of_getElem? g6
theorem bs_mem {A : List Str} (hA : ∀ s ∈ A, NoSl s) {m : Nat} {fs : Fls} (h : LFiles A m fs) {F : List Str} (hF : ∀ s ∈ F, NoSl s) {b : Str × (Str × Str)} :
    b ∈ fs.filterMap (cutB F) ↔ ∃ r, r ≠ [] ∧ (∀ s ∈ F ++ r, s ∈ A) ∧ (F ++ r).length ≤ m ∧ b.1 = jn r ∧ (r, b.2) ∈ down (rowsOf fs) F := by
  rw [List.mem_filterMap]
  constructor
  · rintro ⟨f, hf, e⟩
    obtain ⟨r, h1, h2, h3, h4, rfl⟩ := cutB_some hA h hF hf e
    refine ⟨r, h1, h2, h3, rfl, List.mem_filterMap.mpr ⟨(F ++ r, f.2), (rows_mem hA h).mpr ⟨by simp [h1], h2, h3, by rw [← h4]; exact hf⟩, cut_some.mpr ⟨rfl, h1, rfl⟩⟩⟩
  · rintro ⟨r, h1, h2, h3, e, hm⟩
    obtain ⟨⟨sg, p⟩, hr, hc⟩ := List.mem_filterMap.mp hm
    obtain ⟨a1, a2, a3⟩ := cut_some.mp hc
    have a1' : sg = F ++ r := a1
    have a3' : p = b.2 := a3
    subst a1' a3'
    refine ⟨(jn (F ++ r), b.2), ((rows_mem hA h).mp hr).2.2.2, ?_⟩
    rw [cutB_of hA h1 h2, ← e]
theorem bs_nodup {A : List Str} (hA : ∀ s ∈ A, NoSl s) {m : Nat} {fs : Fls} (h : LFiles A m fs) {F : List Str} (hF : ∀ s ∈ F, NoSl s) : ((fs.filterMap (cutB F)).map (·.1)).Nodup := by
  have hn := h.nd
  rw [List.nodup_iff_pairwise_ne, List.pairwise_map] at hn ⊢
  rw [List.pairwise_filterMap]
  refine hn.imp_of_mem fun {a b} ha hb hne x hx y hy e => hne ?_
  obtain ⟨r, h1, h2, _, h4, rfl⟩ := cutB_some hA h hF ha hx
  obtain ⟨q, g1, g2, _, g4, rfl⟩ := cutB_some hA h hF hb hy
  have : r = q := jn_inj h1 g1 (fun s hs => hA s (h2 s (List.mem_append_right _ hs))) (fun s hs => hA s (g2 s (List.mem_append_right _ hs))) e
  rw [h4, g4, this]
theorem DR.merge {R : V → (Str × Str) → Prop} : ∀ {kv2 : List (Key × V)} {bs : List (Str × (Str × Str))} {k0 : List (Key × V)} {l0 : List (Str × (Str × Str))}, DR R k0 l0 → DR R kv2 bs → DR R (mergeK k0 kv2) (tabE l0 bs)
  | _, _, _, _, h, .nil => h
  | (kk, v) :: kv2, b :: bs, k0, l0, h, .cons q r => by
    obtain ⟨e, q⟩ := q
    have e' : kk = .inr b.1 := e
    subst e'
    have h2 : DR R (putK k0 (.inr b.1) v) (putS l0 b.1 b.2) := DR.put h q
    exact DR.merge (kv2 := kv2) (bs := bs) h2 r
/-- what is due: a file's value, or the word dir -/
def DueAt (H : Hp) (v : V) : Option (Str × Str) → Prop
  | none => v = .str "dir"
  | some p => PairAt H v p
theorem DueAt.same {H H' : Hp} {v : V} (s : Same H H') : ∀ {o : Option (Str × Str)}, DueAt H v o → DueAt H' v o
  | none, h => h
  | some _, h => PairAt.same h s
theorem DueAt.mut {H : Hp} {v : V} {d : Addr} {u o : HO} (hd : H d = some u) (hu : ∀ xs, u ≠ .tup xs) : ∀ {x : Option (Str × Str)}, DueAt H v x → DueAt (upd H d o) v x
  | none, h => h
  | some _, h => PairAt.mut h hd hu
structure DueI (R : List Row) (zs : List Str) (Dl : List (Str × Option (Str × Str))) : Prop where
  nd : (Dl.map (·.1)).Nodup
  all : ∀ z ∈ zs, ∀ x l, (∀ s ∈ x :: l, NoSl s) → z = jn (x :: l) → x ∈ Dl.map (·.1)
  fil : ∀ x p, (x, some p) ∈ Dl → (x, p) ∈ files R
  dir : ∀ x, (x, none) ∈ Dl → x ∈ dirs R
theorem DueI.put {R : List Row} {zs : List Str} {Dl : List (Str × Option (Str × Str))} (h : DueI R zs Dl) {x : Str} {l : List Str} {p : Str × Str} (hx : ∀ s ∈ x :: l, NoSl s) (hr : (x :: l, p) ∈ R) : DueI R (zs ++ [jn (x :: l)]) (putS Dl x (if l = [] then some p else none)) := by
  refine ⟨putS_nodup h.nd, fun z hz y k hy e => ?_, fun y q hm => ?_, fun y hm => ?_⟩
  · rw [putS_key]
    rcases List.mem_append.mp hz with hz | hz
    · exact .inr (h.all z hz y k hy e)
    · rw [List.mem_singleton.mp hz] at e
      have := jn_inj (by simp) (by simp) hx hy e
      injection this with this
      exact .inl this.symm
  · rcases putS_mem hm with e | hm
    · injection e with e1 e2
      by_cases c : l = []
      · rw [if_pos c] at e2
        rw [e1, Option.some.inj e2]
        subst c
        exact List.mem_filterMap.mpr ⟨_, hr, rfl⟩
      · rw [if_neg c] at e2; cases e2
    · exact h.fil y q hm
  · rcases putS_mem hm with e | hm
    · injection e with e1 e2
      cases l with
      | nil => rw [if_pos rfl] at e2; cases e2
      | cons a l =>
        rw [e1]
        exact dirs_mem.mpr ⟨_, hr, rfl⟩
    · exact h.dir y hm
theorem valS_ents {L : List (Str × Str × Str)} (n : (L.map (·.1)).Nodup) (x : Str) : valS (ents L) x = valS L x := by
  obtain ⟨h1, h2⟩ := ents_get n
  cases c : valS L x with
  | none =>
    rw [valS_none] at c ⊢
    rw [ents_keys n]
    exact fun z => c (srt_mem.mp z)
  | some p =>
    have hx : x ∈ srt (L.map (·.1)) := srt_mem.mpr (List.mem_map_of_mem (valS_some c))
    obtain ⟨i, hi⟩ := List.getElem?_of_mem hx
    obtain ⟨q, e1, e2⟩ := h2 i x hi
    rw [c] at e1
    obtain rfl := Option.some.inj e1
    exact valS_of_mem (by rw [ents_keys n]; exact srt_nodup n) (List.mem_of_getElem? e2)
theorem DueI.keys {fs : Fls} (hfs : LFiles alph7 5 fs) {F : List Str} (hP : ∀ s ∈ F, NoSl s) {Dl : List (Str × Option (Str × Str))} {n : Nat}
    (h : DueI (down (rowsOf fs) F) (srt ((fs.filterMap (cutB F)).map (·.1))) Dl) (hB : RBase (down (rowsOf fs) F)) : srt (Dl.map (·.1)) = srt ((entL n (down (rowsOf fs) F)).map (·.1)) := by
  refine srt_of_perm ((List.perm_ext_iff_of_nodup h.nd (by rw [entL_keys]; exact hB.nd)).mpr fun x => ?_)
  rw [entL_keys, List.mem_append]
  have back : ∀ l p, (x :: l, p) ∈ down (rowsOf fs) F → x ∈ Dl.map (·.1) := fun l p hm => by
    obtain ⟨⟨sg, q⟩, hr, hc⟩ := List.mem_filterMap.mp hm
    obtain ⟨a1, a2, a3⟩ := cut_some.mp hc
    have a1' : sg = F ++ x :: l := a1
    subst a1'
    obtain ⟨g1, g2, g3, g4⟩ := (rows_mem alph7_nosl hfs).mp hr
    have hb : (jn (x :: l), p) ∈ fs.filterMap (cutB F) := (bs_mem alph7_nosl hfs hP).mpr ⟨x :: l, by simp, g2, g3, rfl, hm⟩
    exact h.all (jn (x :: l)) (srt_mem.mpr (List.mem_map_of_mem hb)) x l (fun s hs => alph7_nosl s (g2 s (List.mem_append_right _ hs))) rfl
  constructor
  · intro hx
    obtain ⟨⟨y, o⟩, hy, e⟩ := List.mem_map.mp hx
    have e' : y = x := e
    subst e'
    cases o with
    | none => exact .inr (h.dir _ hy)
    | some p => exact .inl (List.mem_map_of_mem (h.fil _ _ hy))
  · rintro (hx | hx)
    · obtain ⟨⟨y, p⟩, hy, e⟩ := List.mem_map.mp hx
      have e' : y = x := e
      subst e'
      obtain ⟨r, hr, hf⟩ := List.mem_filterMap.mp hy
      rw [file_row hf] at hr
      exact back [] _ hr
    · obtain ⟨⟨l, p⟩, hr, hd⟩ := dirs_mem.mp hx
      match l, hd with
      | a :: b :: l, hd =>
        have hd' : a = x := Option.some.inj hd
        subst hd'
        exact back _ _ hr
theorem shaped_strsL {R : List Str} (h : ∀ r ∈ R, txOk r = true) : SeqAt.shaped (.list (R.map PyData.str)) = true := by
  unfold SeqAt.shaped
  rw [Bool.and_eq_true]
  refine ⟨lay_all PyData.str R fun e he => h e he, decide_eq_true ?_⟩
  show PyData.depthAll (R.map PyData.str) + 1 ≤ 64
  have := depth_all PyData.str 0 R fun e _ => Nat.le_refl _
  omega
theorem keys_str {R : V → (Str × Str) → Prop} : ∀ {kvs : List (Key × V)} {l : List (Str × (Str × Str))}, DR R kvs l → kvs.map (fun kv => kV kv.1) = (l.map (·.1)).map V.str
  | _, _, .nil => rfl
  | p :: kvs, f :: l, .cons h r => by
    rw [List.map_cons, List.map_cons, List.map_cons, keys_str (kvs := kvs) (l := l) r, h.1]
    rfl
def pairD (p : Str × Str) : PyData := .tuple [.str p.1, .str p.2]
theorem eqv_pair (a b : Str × Str) : PyData.eqv (pairD a) (pairD b) = decide (a = b) := by
  show (PyData.eqv (.str a.1) (.str b.1) && (PyData.eqv (.str a.2) (.str b.2) && true)) = _
  rw [eqv_str, eqv_str]
  obtain ⟨a1, a2⟩ := a
  obtain ⟨b1, b2⟩ := b
  by_cases c : a1 = b1 <;> by_cases d : a2 = b2 <;> simp [c, d]
theorem shaped_pair {p : Str × Str} (h1 : txOk p.1 = true) (h2 : txOk p.2 = true) : SeqAt.shaped (pairD p) = true := by
  unfold SeqAt.shaped
  rw [Bool.and_eq_true]
  refine ⟨?_, rfl⟩
  show (txOk p.1 && (txOk p.2 && true)) = true
  rw [h1, h2]
  rfl
theorem PairAt.dp {K : Frag} {H : Hp} {v : V} {p : Str × Str} (h : PairAt H v p) : Dp K H v (pairD p) := by
  obtain ⟨q, rfl, hq⟩ := h
  exact .tup (SqT.of hq) (.cons (.str _) (.cons (.str _) .nil))
theorem ne_of_none' {H : Hp} {a b : Addr} {o : HO} (h : H a = none) (h2 : H b = some o) : a ≠ b := fun z => by rw [z, h2] at h; cases h
section
variable {P : Program} {w : World} {K : Frag} {mg : Str → Option Value} {base : Heap}
def spTR (K : Frag) : Nat → Sp
  | 0 => fun _ _ _ _ => False
  | m + 1 => fun vs H Q _ => ∃ (a kd d : Addr) (ks : List (Str × Th)) (fs : Fls) (F : List Str), vs = [.ref a, .str (hid (.tree (held m (down (rowsOf fs) F)))), .ref d, .str (fr F)] ∧ StAt K H a kd ks ∧ FdAt H d fs ∧ LFiles alph7 5 fs ∧ fs.length ≤ 80 ∧ (∀ s ∈ F, s ∈ alph7) ∧ F.length ≤ 5 ∧
    ROk m (down (rowsOf fs) F) ∧ (∀ t ∈ trees m (down (rowsOf fs) F), valS ks (hid t) = some t) ∧ ∀ H', Same H H' → Q (.bl true) H'
abbrev nTRight : List Str := ["_law_store", "_law_name", "_law_files_here", "_law_front", "_law_below", "_law_due", "_law_path_here", "_law_segment_here", "_law_slash", "_law_rest", "_law_told", "_law_value"]
theorem scTRight : FnScope nTRight ["_law_store", "_law_name", "_law_files_here", "_law_front"] (defScope sTRight) := ⟨rfl, rfl, rfl, by decide +kernel, rfl, by decide +kernel, by decide +kernel⟩
structure OwnHas (K : Frag) (f g : Addr) : Prop where
  has : PySem.W.findIn K (.ref (ca K "Store")) "__contains__" = some (some (.ref f))
  hasF : PySem.W.isFn K (.ref f) = true
  get : PySem.W.findIn K (.ref (ca K "Store")) "__getitem__" = some (some (.ref g))
  getF : PySem.W.isFn K (.ref g) = true
  getN : PySem.W.fnIn K g = true
theorem tr_step {m k : Nat} (hk : 6 ≤ k) (F : GF K mg "_law_tree_right" sTRight) (G : Cal P w K mg base CX0 k "_law_tree_right" ["_law_store", "_law_name", "_law_files_here", "_law_front"] (spTR K m))
    (GE : CalF P w K mg base CX0 1 (gAt K (ca K "Tree") "entries") ["self"] (spTEnt K)) (GG : CalF P w K mg base CX0 1 (mAt K (ca K "Store") "__getitem__") ["self", "name"] (spGet K)) (O : OwnHas K (mAt K (ca K "Store") "__contains__") (mAt K (ca K "Store") "__getitem__")) (T : Kit K mg) :
    Cal P w K mg base CX0 (k + 1) "_law_tree_right" ["_law_store", "_law_name", "_law_files_here", "_law_front"] (spTR K (m + 1)) := by
  refine cal0 F scTRight (fun _ _ _ _ _ _ us hl => match us, hl with | [_, _, _, _], _ => rfl) (fun vs H Q E h => ?_) (fun cdv A outer s H vs Q E hr h => ?_)
  · obtain ⟨a, kd, d, ks, fs, Pp, rfl, _⟩ := h
    rfl
  · obtain ⟨a, kd, d, ks, fs, Pp, rfl, hst, hfd, hfs, hl, hP, hPl, hro, hks, kQ⟩ := h
    have B := T.fr
    obtain ⟨fdG, FG, BG⟩ := calf_nil GG
    refine ⟨_, (pss_cons (ps_lock (ps_set (i := 4) scTRight.nd rfl (Or.inl rfl) (pe_callTy (call_dictP rfl) (by rfl) B.dict (by decide +kernel) (pa_cons (pe_lc (own := [("_law_path_here", 6), ("_law_value", 11)]) (g := (gTup K 2 (gCons (gName 6) (gCons (gName 11) gNil)))) rfl scTRight.nd (pi_items (pv 2)) (blkOk_by (N := nTRight) (sc := defScope sTRight) (by decide +kernel)) (fun _ _ _ _ _ => (pg_tup rfl (pgs_cons (pg_name (i := 6) scTRight.nd rfl (Or.inl rfl)) (pgs_cons (pg_name (i := 11) scTRight.nd rfl (Or.inl rfl)) pgs_nil)))) (fun _ _ _ _ _ => (pts_one (pt_val (pe_m1 PySem.F.slot_str_startswith PySem.F.type_str_startswith mt_startswith (pv 6) (pv 3))))) (fun _ _ _ _ _ => (pe_tup (pa_cons (pe_slice sl_str (pv 6) (po_some (pe_callB call_len_str (by rfl) B.len boot_len (pa_cons (pv 3) pa_nil))) po_none) (pa_cons (pv 11) pa_nil))))) pa_nil))))
        (pss_cons (ps_set (i := 5) scTRight.nd rfl (Or.inl rfl) pe_dnewK)
        (pss_cons (ps_for (g := gName 6) PassesOwn.never rfl (pi_list (pe_callB (call_sortedDA rfl) (by rfl) B.sorted (by decide +kernel) (pa_cons (pv 4) pa_nil))) (pg_name (i := 6) scTRight.nd rfl (Or.inl rfl)) (pss_cons (ps_asg (g := (gTup K 3 (gCons (gName 7) (gCons (gName 8) (gCons (gName 9) gNil))))) (pe_partition (pv 6) pe_str) (pg_tup rfl (pgs_cons (pg_name (i := 7) scTRight.nd rfl (Or.inl rfl)) (pgs_cons (pg_name (i := 8) scTRight.nd rfl (Or.inl rfl)) (pgs_cons (pg_name (i := 9) scTRight.nd rfl (Or.inl rfl)) pgs_nil)))))
        (pss_one (ps_if (pt_cmpR op_eq (pv 8) pe_str (nomark _)) (pss_one (ps_dput (hu_of hr) (pv 5) (pv 7) (pe_dget (hu_of hr) (pv 4) (pv 6) (by intro _ _; rfl)) (by rfl))) (pss_one (ps_dput (hu_of hr) (pv 5) (pv 7) pe_str (by rfl)))))))
        (pss_cons (ps_set (i := 10) scTRight.nd rfl (Or.inl rfl) (pprop GE (pe_ixOwn FG BG pass0 (hr.mono (Nat.le_trans (by decide : 2 ≤ 6) hk)) O.get O.getF O.getN (pv 0) (pv 1)) T.cT T.prT (hr.mono (Nat.le_trans (by decide : 2 ≤ 6) hk)) pass0))
        (pss_cons (ps_if (pt_cmpR (op_neD hr.units) (pe_callTy (call_listD rfl) (by rfl) B.list (by decide +kernel) (pa_cons (pv 10) pa_nil)) (pe_callB (call_sortedDA rfl) (by rfl) B.sorted (by decide +kernel) (pa_cons (pv 5) pa_nil)) (nomark _)) (pss_one (ps_ret pe_bl)) pss_nil)
        (pss_cons (ps_lock (ps_for (g := gName 7) PassesOwn.never rfl (pi_keys (pv 5)) (pg_name (i := 7) scTRight.nd rfl (Or.inl rfl)) (pss_one (ps_if (pt_cmpR (op_neD hr.units) (pe_dget (hu_of hr) (pv 5) (pv 7) (by intro _ _; rfl)) pe_str (nomark _)) (pss_one (ps_if (pt_cmpR (op_neD hr.units) (pe_dget (hu_of hr) (pv 10) (pv 7) (by intro _ _; rfl)) (pe_dget (hu_of hr) (pv 5) (pv 7) (by intro _ _; rfl)) (nomark _)) (pss_one (ps_ret pe_bl)) pss_nil)) (pss_one (ps_if (pt_cmpR op_ne (pe_ix ix_tup (pe_dget (hu_of hr) (pv 10) (pv 7) (by intro _ _; rfl)) pe_int (by intro _ _; rfl)) pe_str (nomark _)) (pss_one (ps_ret pe_bl)) (pss_one (ps_if (pt_not (pt_val (pcal G hr (by rfl) pass0 (pa_cons (pv 0) (pa_cons (pe_ix ix_tup (pe_dget (hu_of hr) (pv 10) (pv 7) (by intro _ _; rfl)) pe_int (by intro _ _; rfl)) (pa_cons (pv 2) (pa_cons (pe_op op_add_str (pe_op op_add_str (pv 3) (pv 7)) pe_str) pa_nil))))))) (pss_one (ps_ret pe_bl)) pss_nil))))))))
        (pss_one (ps_ret pe_bl)))))))), ?_⟩
    obtain ⟨kvs, hd, hdr⟩ := hfd
    have hkl : kvs.length = fs.length := hdr.len
    have hnP : ∀ s ∈ Pp, NoSl s := fun s hs => alph7_nosl s (hP s hs)
    have hflen : (fr Pp).length ≤ 4 * Pp.length := fr_len _ fun s hs => alph7_len s (hP s hs)
    refine ⟨d, .dK kvs, hd, trivial, fun od => ?_⟩
    have hdl : (upd H d (.frz od (.dK kvs))) d = some (.frz od (.dK kvs)) := upd_same
    have drl : DR (PairAt (upd H d (.frz od (.dK kvs)))) kvs fs := hdr.imp fun v p q => PairAt.mut (u := .dK kvs) q hd (by intro _ z; cases z)
    refine ⟨_, rfl, d, od, kvs, rfl, hdl, fun D hD => lc_of (n := kvs.length) (fun j H' => Same (upd H d (.frz od (.dK kvs))) H' ∧ ∃ (ps : List Addr) (bkv : List (Key × V)), H' D = some (.lst (ps.map V.ref)) ∧ Paired (fun p kv => H' p = some (.tup [kV kv.1, kv.2])) ps bkv ∧ DR (PairAt H') bkv ((fs.take j).filterMap (cutB Pp)))
      ⟨Same.new hD, [], [], upd_same, .nil, .nil⟩ (fun j H' hj q => ⟨q.1 _ _ hdl, hj⟩) (fun H' q => ⟨q.1 _ _ hdl, Nat.le_refl _⟩) ?_ ?_⟩
    · rintro j x H3 H4 hj ⟨s3, ps, bkv, l3, p3, d3⟩ ⟨T0, kk, v, hkv, rfl, hT, rfl⟩
      obtain ⟨f, hf, rfl, hpv⟩ := drl.get hkv
      have hfm := List.mem_of_getElem? hf
      obtain ⟨sg, e1, g1, g2, g3⟩ := hfs.seg f hfm
      have hf1 : f.1.length ≤ 100 := by
        have := jn_len (b := 3) sg fun s hs => alph7_len s (g3 s hs)
        rw [e1]; omega
      have sT : Same H3 (upd H3 T0 (.tup [kV (.inr f.1), v])) := Same.new hT
      have htk : (fs.take (j + 1)).filterMap (cutB Pp) = (fs.take j).filterMap (cutB Pp) ++ (cutB Pp f).toList := by
        rw [List.take_add_one, hf, List.filterMap_append]
        congr 1
      refine ⟨T0, _, rfl, SqT.of upd_same, rfl, _, _, rfl, _, _, rfl, rfl, rfl, ?_⟩
      refine ⟨_, rfl, ⟨_, rfl⟩, _, rfl, _, _, rfl, rfl, _, rfl, ?_⟩
      cases hsw : Txt.startswith f.1 (fr Pp) with
      | false =>
        refine iteF ?_
        have hc : cutB Pp f = none := by unfold cutB; rw [hsw]; rfl
        rw [hc] at htk
        refine ⟨s3.trans sT, ps, bkv, sT _ _ l3, L2.Paired.mapP p3 fun _ _ q => sT _ _ q, ?_⟩
        rw [htk]
        show DR _ _ (_ ++ [])
        rw [List.append_nil]
        exact d3.imp fun v p q => q.same sT
      | true =>
        refine iteT' ?_
        obtain ⟨r, hr0, rfl⟩ := (fr_front g1 hnP fun s hs => alph7_nosl s (g3 s hs)).mp (by rw [← e1]; exact hsw)
        have hc : cutB Pp f = some (jn r, f.2) := by
          have : f = (jn (Pp ++ r), f.2) := by rw [← e1]
          rw [this]
          exact cutB_of alph7_nosl hr0 g3
        rw [hc] at htk
        refine ⟨_, rfl, _, rfl, _, rfl, line_of (by omega), _, rfl, _, rfl, line_of (by omega), _, rfl, (by show 2 ≤ sizeLine; exact line_of (by decide)), fun T1 hT1 => ?_⟩
        have ecut : cutS f.1 (some ((fr Pp).length : Int)) none = jn r := by rw [e1, cutS_front Pp hr0]
        rw [ecut]
        have sT1 := Same.new (o := .tup [.str (jn r), v]) hT1
        have l4 := sT1 _ _ (sT _ _ l3)
        have hpl : ps.length ≤ fs.length := by
          rw [paired_len p3, d3.len]
          exact Nat.le_trans (List.length_filterMap_le _ _) (List.length_take_le' _ _)
        have sTT := sT.trans sT1
        have nDd : ∀ {c : Addr} {o : HO}, (upd (upd H3 T0 (.tup [kV (.inr f.1), v])) T1 (.tup [.str (jn r), v])) c = some o → (∀ xs, o ≠ .lst xs) → (upd (upd (upd H3 T0 (.tup [kV (.inr f.1), v])) T1 (.tup [.str (jn r), v])) D (.lst (ps.map V.ref ++ [.ref T1]))) c = some o := fun h hn => by
          rw [upd_ne (ne_of h l4 (hn _))]; exact h
        refine ⟨_, l4, by rw [List.length_map]; exact line_lt (by omega), (s3.trans sTT).mut hD, ps ++ [T1], bkv ++ [(.inr (jn r), v)], by rw [upd_same, List.map_append]; rfl, ?_, ?_⟩
        · refine paired_snoc (a := T1) (b := ((.inr (jn r), v) : Key × V)) (F := fun (p : Addr) (kv : Key × V) => (upd (upd (upd H3 T0 (.tup [kV (.inr f.1), v])) T1 (.tup [.str (jn r), v])) D (.lst (ps.map V.ref ++ [.ref T1]))) p = some (.tup [kV kv.1, kv.2])) (nDd upd_same (by intro _ z; cases z)) ?_
          exact L2.Paired.mapP p3 fun _ _ q => nDd (sTT _ _ q) (by intro _ z; cases z)
        · rw [htk]
          have hpv4 : PairAt (upd (upd (upd H3 T0 (.tup [kV (.inr f.1), v])) T1 (.tup [.str (jn r), v])) D (.lst (ps.map V.ref ++ [.ref T1]))) v f.2 := PairAt.mut (u := .lst (ps.map V.ref)) ((hpv.same s3).same sTT) l4 (by intro _ z; cases z)
          exact paired_snoc (F := fun (p : Key × V) (f : Str × (Str × Str)) => p.1 = .inr f.1 ∧ PairAt _ p.2 f.2) ⟨rfl, hpv4⟩ (d3.imp fun v p q => PairAt.mut (u := .lst (ps.map V.ref)) (q.same sTT) l4 (by intro _ z; cases z))
    rintro H3 ⟨s3, ps, bkv, l3, p3, d3⟩
    rw [hkl, List.take_length] at d3
    generalize hbs : fs.filterMap (cutB Pp) = bs at d3
    have hbn : (bs.map (·.1)).Nodup := by rw [← hbs]; exact bs_nodup alph7_nosl hfs hnP
    have hbl : bs.length ≤ 80 := by rw [← hbs]; exact Nat.le_trans (List.length_filterMap_le _ _) hl
    refine ⟨D, ps, bkv, rfl, SqL.of l3, L2.Paired.mapP p3 fun _ _ q => SqT.of q, fun bd hbd => ?_⟩
    have hdm : DR (PairAt H3) (mergeK [] bkv) bs := by
      have := DR.merge (k0 := []) (l0 := []) .nil d3
      rw [show tabE [] bs = bs from by have := tabE_app bs [] (by rw [List.nil_append]; exact hbn); simpa using this] at this
      exact this
    generalize mergeK [] bkv = bk at hdm
    have sb : Same H3 (upd H3 bd (.dK bk)) := Same.new hbd
    refine ⟨sb _ _ (s3 _ _ hdl), ?_⟩
    have sHu : Same H (upd (upd H3 bd (.dK bk)) d (.dK kvs)) := Same.unlock hd (s3.trans sb)
    have nbd : bd ≠ d := ne_of_none' hbd (s3 _ _ hdl)
    have hub : (upd (upd H3 bd (.dK bk)) d (.dK kvs)) bd = some (.dK bk) := by rw [upd_ne nbd]; exact upd_same
    have hdu : DR (PairAt (upd (upd H3 bd (.dK bk)) d (.dK kvs))) bk bs := hdm.imp fun v p q => PairAt.mut (u := .frz od (.dK kvs)) (q.same sb) (sb _ _ (s3 _ _ hdl)) (by intro _ z; cases z)
    generalize upd (upd H3 bd (.dK bk)) d (.dK kvs) = Hu at sHu hub hdu
    intro e he
    have s4 : Same Hu (upd Hu e (.dK [])) := Same.new he
    refine ⟨_, rfl, bd, bk, bs.map (·.1), rfl, .inl (s4 _ _ hub), hdu.keys, by rw [List.length_map]; omega, fun ys p hperm hsort hp => ?_⟩
    obtain rfl := srt_unique hperm hsort
    have s5 : Same Hu (upd (upd Hu e (.dK [])) p (.lst ((srt (bs.map (·.1))).map V.str))) := s4.trans (Same.new hp)
    have npe : p ≠ e := fun z => by rw [z, upd_same] at hp; cases hp
    have heH : H e = none := Same.free sHu he
    refine ⟨p, rfl, ⟨_, SqL.of upd_same⟩, for_list (K := K) (a := p) (xs := (srt (bs.map (·.1))).map V.str) (fun i σ H' => (∃ x6 x7 x8 x9 x10 x11, σ = [some (.ref a), some (.str (hid (.tree (held m (down (rowsOf fs) Pp))))), some (.ref d), some (.str (fr Pp)), some (.ref bd), some (.ref e), x6, x7, x8, x9, x10, x11]) ∧ Same Hu H' ∧ H' p = some (.lst ((srt (bs.map (·.1))).map V.str)) ∧
        ∃ dk Dl, H' e = some (.dK dk) ∧ DR (DueAt H') dk Dl ∧ DueI (down (rowsOf fs) Pp) ((srt (bs.map (·.1))).take i) Dl ∧ Dl.length ≤ i) ?_ ?_ ?_ ?_⟩
    · exact ⟨⟨_, _, _, _, _, _, rfl⟩, s5, upd_same, [], [], by rw [upd_ne npe.symm]; exact upd_same, .nil, ⟨.nil, fun z hz => (by cases hz), fun x p hm => (by cases hm), fun x hm => (by cases hm)⟩, Nat.le_refl _⟩
    · exact fun i σ H' _ q => SqL.of q.2.2.1
    · rintro i x σ H6 hx ⟨⟨x6, x7, x8, x9, x10, x11, rfl⟩, s6, hp6, dk, Dl, he6, dr6, due, hDi⟩
      obtain ⟨z, hz, rfl⟩ : ∃ z, (srt (bs.map (·.1)))[i]? = some z ∧ x = V.str z := by
        rw [List.getElem?_map] at hx
        cases e : (srt (bs.map (·.1)))[i]? with
        | none => rw [e] at hx; cases hx
        | some z => rw [e] at hx; exact ⟨z, rfl, (Option.some.inj hx).symm⟩
      have hi80 : i < 80 := by
        have := (List.getElem?_eq_some_iff.mp hx).1
        rw [List.length_map, srt_len, List.length_map] at this
        omega
      obtain ⟨b, hb, rfl⟩ := List.mem_map.mp (srt_mem.mp (List.mem_of_getElem? hz))
      obtain ⟨r, hr0, hra, hrl, hb1, hrp⟩ := (bs_mem alph7_nosl hfs hnP).mp (by rw [hbs]; exact hb)
      have htk : (srt (bs.map (·.1))).take (i + 1) = (srt (bs.map (·.1))).take i ++ [jn r] := by rw [List.take_add_one, hz, ← hb1]; rfl
      have hbl1 : b.1.length ≤ 100 := by
        have := jn_len (b := 3) r fun s hs => alph7_len s (hra s (List.mem_append_right _ hs))
        rw [List.length_append] at hrl
        rw [hb1]; omega
      have hrn : ∀ s ∈ r, NoSl s := fun s hs => alph7_nosl s (hra s (List.mem_append_right _ hs))
      refine ⟨_, rfl, ⟨_, rfl⟩, _, _, rfl, rfl, (by decide +kernel), line_of (by omega), fun T0 hT0 => ?_⟩
      have sT := Same.new (o := .tup [.str (Txt.partition b.1 "/").1, .str (Txt.partition b.1 "/").2.1, .str (Txt.partition b.1 "/").2.2]) hT0
      refine ⟨T0, _, rfl, SqT.of upd_same, rfl, _, _, rfl, _, _, rfl, _, _, rfl, rfl, ?_⟩
      have he7 := sT _ _ he6
      have dr7 : DR (DueAt _) dk Dl := dr6.imp fun v o q => DueAt.same sT q
      cases r with
      | nil => exact absurd rfl hr0
      | cons y l =>
        have dueP := due.put hrn hrp
        rw [← htk] at dueP
        cases l with
        | nil =>
          have hpt : Txt.partition b.1 "/" = (y, Str.empty, Str.empty) := by rw [hb1]; exact partition_jn_one (hrn y (by simp))
          rw [hpt] at sT he7 dr7 ⊢
          refine ⟨_, rfl, rfl, _, rfl, ?_⟩
          refine iteT' ?_
          obtain ⟨v, hv, hpv⟩ := hdu.val_some (valS_of_mem hbn (show (b.1, b.2) ∈ bs from hb))
          refine ⟨_, rfl, _, rfl, bd, v, rfl, .inl ⟨bk, .inr b.1, .inl (sT _ _ (s6 _ _ hub)), rfl, hv.symm⟩, _, rfl, _, rfl, e, _, rfl, .inl ⟨dk, .inr y, he7, rfl, line_lt (by rw [dr7.len]; omega), rfl⟩, ?_⟩
          refine ⟨⟨_, _, _, _, _, _, rfl⟩, (s6.trans sT).mut he, by rw [upd_ne npe]; exact sT _ _ hp6, _, putS Dl y (some b.2), upd_same, ?_, dueP, ?_⟩
          · exact DR.put (dr7.imp fun v o q => DueAt.mut (u := .dK dk) he7 (by intro _ z; cases z) q) (show PairAt _ v b.2 from PairAt.mut (u := .dK dk) ((hpv.same s6).same sT) he7 (by intro _ z; cases z))
          · have := putS_len (l := Dl) (k := y) (v := some b.2)
            omega
        | cons y2 l =>
          have hpt : Txt.partition b.1 "/" = (y, ("/" : Str), jn (y2 :: l)) := by rw [hb1]; exact partition_jn (hrn y (by simp)) (by simp)
          rw [hpt] at sT he7 dr7 ⊢
          refine ⟨_, rfl, rfl, _, rfl, ?_⟩
          refine iteF ?_
          refine ⟨_, rfl, _, rfl, e, _, rfl, .inl ⟨dk, .inr y, he7, rfl, line_lt (by rw [dr7.len]; omega), rfl⟩, ?_⟩
          refine ⟨⟨_, _, _, _, _, _, rfl⟩, (s6.trans sT).mut he, by rw [upd_ne npe]; exact sT _ _ hp6, _, putS Dl y none, upd_same, ?_, dueP, ?_⟩
          · exact DR.put (dr7.imp fun v o q => DueAt.mut (u := .dK dk) he7 (by intro _ z; cases z) q) (show DueAt _ (.str "dir") none from rfl)
          · have := putS_len (l := Dl) (k := y) (v := (none : Option (Str × Str)))
            omega
    rintro σ H6 ⟨⟨x6, x7, x8, x9, x10, x11, rfl⟩, s6, hp6, dk, Dl, he6, dr6, due, hDi⟩
    have hle : (srt (bs.map (·.1))).length ≤ 80 := by rw [srt_len, List.length_map]; exact hbl
    rw [List.length_map] at hDi
    rw [List.length_map, List.take_length, ← hbs] at due
    have hB := hro.base
    have sH6 : Same H H6 := sHu.trans s6
    have st6 := hst.same sH6
    obtain ⟨dxS, kvS, haS, hkS, hdS⟩ := st6
    have hv6 : valS ks (hid (.tree (held m (down (rowsOf fs) Pp)))) = some (.tree (held m (down (rowsOf fs) Pp))) := by
      refine hks _ ?_
      cases m with
      | zero => exact List.mem_cons_self
      | succ m => exact List.mem_append_right _ List.mem_cons_self
    have hes := held_ok hro
    refine ⟨_, rfl, _, rfl, a, dxS, stF kd, rfl, haS, a, kd, ks, _, .tree (held m (down (rowsOf fs) Pp)), rfl, ⟨dxS, kvS, haS, hkS, hdS⟩, hv6, fun c hc => ?_⟩
    have hc' := hc
    obtain ⟨dxc, tt, rs, hc1, hc2, hc3⟩ := hc
    refine ⟨c, dxc, _, rfl, hc1, c, held m (down (rowsOf fs) Pp), rfl, hc', hes.nd, hes.len, fun H7 td tkv s7 htd0 htd drt => ?_⟩
    have he7 := s7 _ _ he6
    have dr7 : DR (DueAt H7) dk Dl := dr6.imp fun v o q => DueAt.same s7 q
    refine ⟨_, rfl, td, tkv, rfl, .inl htd, fun l hl0 => ?_⟩
    have sl : Same H7 (upd H7 l (.lst (tkv.map fun kv => kV kv.1))) := Same.new hl0
    refine ⟨_, rfl, e, dk, Dl.map (·.1), rfl, .inl (sl _ _ he7), dr7.keys, by rw [List.length_map]; omega, fun ys p2 hperm2 hsort2 hp2 => ?_⟩
    obtain rfl := srt_unique hperm2 hsort2
    have nE : ((entL (m - 1) (down (rowsOf fs) Pp)).map (·.1)).Nodup := by rw [entL_keys]; exact hB.nd
    have hkk : srt (Dl.map (·.1)) = (held m (down (rowsOf fs) Pp)).map (·.1) := by
      rw [held_eq hro, ents_keys nE]
      exact due.keys hfs hnP hB
    have htx : ∀ x ∈ (held m (down (rowsOf fs) Pp)).map (·.1), txOk x = true := fun x hx => by
      obtain ⟨en, hen, rfl⟩ := List.mem_map.mp hx
      exact txOk_seg (hes.ok en hen).seg
    have sp2 := Same.new (o := .lst ((srt (Dl.map (·.1))).map V.str)) hp2
    refine ⟨.list (((held m (down (rowsOf fs) Pp)).map (·.1)).map PyData.str), .list ((srt (Dl.map (·.1))).map PyData.str), .lst (SqL.of (sp2 _ _ upd_same)) (by rw [keys_str drt]; exact dp_strs _), .lst (SqL.of upd_same) (dp_strs _), shaped_strsL htx, shaped_strsL (by rw [hkk]; exact htx), _, rfl, ?_⟩
    rw [hkk]
    have heqv : PyData.eqv (.list (((held m (down (rowsOf fs) Pp)).map (·.1)).map PyData.str)) (.list (((held m (down (rowsOf fs) Pp)).map (·.1)).map PyData.str)) = true := by
      show PyData.eqvAll _ _ = true
      rw [eqv_all PyData.str eqv_str]
      exact decide_eq_true rfl
    rw [heqv]
    refine iteF ?_
    rw [hkk] at sp2
    have s8 : Same H7 (upd (upd H7 l (.lst (tkv.map fun kv => kV kv.1))) p2 (.lst (((held m (down (rowsOf fs) Pp)).map (·.1)).map V.str))) := sl.trans sp2
    have he8 := s8 _ _ he7
    have htd8 := s8 _ _ htd
    have dr8 := dr7.imp fun v o q => DueAt.same s8 q
    have drt8 := drt.imp fun v o q => PairAt.same q s8
    have sH8 := (sH6.trans s7).trans s8
    generalize upd (upd H7 l (.lst (tkv.map fun kv => kV kv.1))) p2 (.lst (((held m (down (rowsOf fs) Pp)).map (·.1)).map V.str)) = H8 at s8 he8 htd8 dr8 drt8 sH8
    have ntd : td ≠ e := ne_of_none' htd0 he6
    refine ⟨e, .dK dk, he8, trivial, fun od2 => ?_⟩
    have hel : (upd H8 e (.frz od2 (.dK dk))) e = some (.frz od2 (.dK dk)) := upd_same
    have htdl : (upd H8 e (.frz od2 (.dK dk))) td = some (.dK tkv) := by rw [upd_ne ntd]; exact htd8
    have drl8 : DR (DueAt (upd H8 e (.frz od2 (.dK dk)))) dk Dl := dr8.imp fun v o q => DueAt.mut (u := .dK dk) he8 (by intro _ z; cases z) q
    have drtl : DR (PairAt (upd H8 e (.frz od2 (.dK dk)))) tkv (held m (down (rowsOf fs) Pp)) := drt8.imp fun v o q => PairAt.mut (u := .dK dk) q he8 (by intro _ z; cases z)
    have sHl : Same H (upd H8 e (.frz od2 (.dK dk))) := sH8.mut heH
    refine ⟨_, rfl, e, od2, rfl, .inl ⟨dk, hel, for_of (n := dk.length) (fun i σ H' => (∃ x6 x7 x8 x9 x11, σ = [some (.ref a), some (.str (hid (.tree (held m (down (rowsOf fs) Pp))))), some (.ref d), some (.str (fr Pp)), some (.ref bd), some (.ref e), x6, x7, x8, x9, some (.ref td), x11]) ∧ Same (upd H8 e (.frz od2 (.dK dk))) H') ⟨⟨_, _, _, _, _, rfl⟩, Same.refl _⟩ ?_ ?_ ?_ ?_⟩⟩
    · exact fun i σ H' hi q => ⟨q.2 _ _ hel, hi⟩
    · exact fun σ H' q => ⟨q.2 _ _ hel, Nat.le_refl _⟩
    · rintro i x σ H9 H10 hi ⟨⟨x6, x7, x8, x9, x11, rfl⟩, s9⟩ ⟨rfl, kk, v, hkv, rfl⟩
      obtain ⟨⟨x, o⟩, hf, rfl, _⟩ := drl8.get hkv
      have hfm := List.mem_of_getElem? hf
      obtain ⟨u, hval, hdu9⟩ := drl8.val_some (valS_of_mem due.nd hfm)
      have he9 := s9 _ _ hel
      have htd9 := s9 _ _ htdl
      have dgd : DGet H10 e (.str x) (some u) := .inl ⟨dk, .inr x, .inr ⟨od2, he9⟩, rfl, hval.symm⟩
      have hget : ∀ p, (x, p) ∈ entL (m - 1) (down (rowsOf fs) Pp) → ∃ y, DGet H10 td (.str x) (some y) ∧ PairAt H10 y p := fun p hp => by
        have hv2 : valS (held m (down (rowsOf fs) Pp)) x = some p := by
          rw [held_eq hro, valS_ents nE]
          exact valS_of_mem nE hp
        obtain ⟨y, hy, hpy⟩ := drtl.val_some hv2
        exact ⟨y, .inl ⟨tkv, .inr x, .inl htd9, rfl, hy.symm⟩, hpy.same s9⟩
      cases o with
      | some pr =>
        have hpr : PairAt H10 u pr := PairAt.same hdu9 s9
        have hent := entL_ok hB _ (List.mem_append_left _ (due.fil _ _ hfm) : (x, pr) ∈ entL (m - 1) (down (rowsOf fs) Pp))
        obtain ⟨y, dgy, hpy⟩ := hget pr (List.mem_append_left _ (due.fil _ _ hfm))
        have sh : SeqAt.shaped (pairD pr) = true := shaped_pair (txOk_kind hent.kind) (txOk_id hent.id)
        refine ⟨_, rfl, _, rfl, e, u, rfl, dgd, pairD pr, .str "dir", hpr.dp, .str _, sh, (by decide +kernel), _, rfl, ?_⟩
        refine iteT' ?_
        refine ⟨_, rfl, _, rfl, td, y, rfl, dgy, _, rfl, _, rfl, e, u, rfl, dgd, pairD pr, pairD pr, hpy.dp, hpr.dp, sh, sh, _, rfl, ?_⟩
        rw [eqv_pair, decide_eq_true rfl]
        refine iteF ?_
        exact ⟨⟨_, _, _, _, _, rfl⟩, s9⟩
      | none =>
        have hvd : u = .str "dir" := hdu9
        subst hvd
        have hdir := due.dir _ hfm
        refine ⟨_, rfl, _, rfl, e, _, rfl, dgd, .str "dir", .str "dir", .str _, .str _, (by decide +kernel), (by decide +kernel), _, rfl, ?_⟩
        rw [eqv_str, decide_eq_true rfl]
        refine iteF ?_
        cases m with
        | zero => rw [hro.2.2] at hdir; cases hdir
        | succ m =>
          obtain ⟨y, dgy, q, rfl, hq⟩ := hget ("dir", hid (.tree (held m (sub (down (rowsOf fs) Pp) x)))) (List.mem_append_right _ (List.mem_map.mpr ⟨x, hdir, rfl⟩))
          refine ⟨_, rfl, _, rfl, td, _, rfl, dgy, q, _, _, _, rfl, rfl, SqT.of hq, rfl, rfl, _, rfl, ?_⟩
          refine iteF ?_
          have hx3 : x ∈ alph7 := by
            obtain ⟨⟨l, p⟩, hr, hd2⟩ := dirs_mem.mp hdir
            obtain ⟨⟨sg, p2⟩, hr2, hc2⟩ := List.mem_filterMap.mp hr
            obtain ⟨a1, a2, a3⟩ := cut_some.mp hc2
            have a1' : sg = Pp ++ l := a1
            subst a1'
            exact ((rows_mem alph7_nosl hfs).mp hr2).2.1 x (List.mem_append_right _ (dir_row hd2))
          have hPl2 : (Pp ++ [x]).length ≤ 5 := by
            obtain ⟨⟨l, p⟩, hr, hd2⟩ := dirs_mem.mp hdir
            obtain ⟨⟨sg, p2⟩, hr2, hc2⟩ := List.mem_filterMap.mp hr
            obtain ⟨a1, a2, a3⟩ := cut_some.mp hc2
            have a1' : sg = Pp ++ l := a1
            subst a1'
            have h5 := ((rows_mem alph7_nosl hfs).mp hr2).2.2.1
            have : l ≠ [] := a2
            cases l with
            | nil => exact absurd rfl a2
            | cons y l =>
              rw [List.length_append] at h5 ⊢
              simp only [List.length_cons, List.length_nil] at h5 ⊢
              omega
          have h1 : (Str.ofString "/").length = 1 := by decide +kernel
          have hxl3 := alph7_len x hx3
          have sHT := sHl.trans s9
          refine ⟨_, rfl, _, rfl, _, rfl, td, _, rfl, dgy, q, _, _, _, rfl, rfl, SqT.of hq, rfl, _, rfl, _, rfl, _, rfl, _, _, rfl, rfl, line_of (by show (fr Pp).length + x.length ≤ 100000; omega), _, _, rfl, rfl, line_of (by show (fr Pp ++ x).length + (Str.ofString "/").length ≤ 100000; rw [len_app, h1]; omega), ?_⟩
          refine ⟨a, kd, d, ks, fs, Pp ++ [x], by rw [fr_snoc, down_snoc]; rfl, hst.same sHT, ⟨kvs, sHT _ _ hd, hdr.imp fun v p q => q.same sHT⟩, hfs, hl, fun s hs => ?_, hPl2, by rw [down_snoc]; exact hro.2.2 x hdir, fun t ht => ?_, fun H11 s11 => ?_⟩
          · rcases List.mem_append.mp hs with hs | hs
            · exact hP s hs
            · rw [List.mem_singleton.mp hs]; exact hx3
          · rw [down_snoc] at ht
            exact hks t (List.mem_append_left _ (List.mem_flatMap.mpr ⟨x, hdir, ht⟩))
          · refine ⟨_, rfl, ?_⟩
            exact iteF ⟨⟨_, _, _, _, _, rfl⟩, s9.trans s11⟩
    rintro σ H9 ⟨_, s9⟩
    refine ⟨s9 _ _ hel, ?_⟩
    exact kQ _ ((sHl.trans s9).mut heH)
theorem cal_falseC {CX : CXT} {x : Str} {st : Stmt} {ps : List Str} {k : Nat} (F : GF K mg x st)
    (hb : ∀ (kV doc pm : Value) (an : Option Addr) (cdv ct : Value) (us : List Value), us.length = ps.length → bindArgs (PySem.W.fnOf x x (defArgs st) (defBody st) (defScope st) .none kV doc pm an cdv ct) ⟨us, []⟩ = pure (ps.zip us)) :
    Cal P w K mg base CX k x ps (fun _ _ _ _ => False) := by
  obtain ⟨fd, FD⟩ := F.fd
  exact ⟨F.mgx, FD.kp, fd, [], ⟨fun _ _ _ _ h => h.elim, fun _ _ _ _ _ _ _ _ _ _ _ _ _ h => h.elim⟩, FD.bindsN hb, .nil⟩
theorem ok_tr (F : GF K mg "_law_tree_right" sTRight) (GE : CalF P w K mg base CX0 1 (gAt K (ca K "Tree") "entries") ["self"] (spTEnt K)) (GG : CalF P w K mg base CX0 1 (mAt K (ca K "Store") "__getitem__") ["self", "name"] (spGet K)) (O : OwnHas K (mAt K (ca K "Store") "__contains__") (mAt K (ca K "Store") "__getitem__")) (T : Kit K mg) :
    ∀ n, Cal P w K mg base CX0 (6 + n) "_law_tree_right" ["_law_store", "_law_name", "_law_files_here", "_law_front"] (spTR K n)
  | 0 => cal_falseC F (fun _ _ _ _ _ _ us hl => match us, hl with | [_, _, _, _], _ => rfl)
  | n + 1 => tr_step (Nat.le_add_right 6 n) F (ok_tr F GE GG O T n) GE GG O T
end
end FK

/-! Forkhaul k08: files of the law are good rows; the walk of files_of, the mathematics. -/
namespace FK
open PySem PySem.Spec PyProof.Rows L2 TL
open PySem.W (Frag)
theorem alph7_seg : ∀ s ∈ alph7, isSegS s = true := by decide +kernel
theorem sub_len {α : Type} [BEq α] [LawfulBEq α] {l m : List α} (h : l.Nodup) (hs : ∀ x ∈ l, x ∈ m) : l.length ≤ m.length := by
  induction l generalizing m with
  | nil => exact Nat.zero_le _
  | cons x l ih =>
    have hx := hs x List.mem_cons_self
    rw [List.nodup_cons] at h
    have := ih h.2 (m := m.erase x) fun y hy => by
      have hne : y ≠ x := fun e => h.1 (e ▸ hy)
      exact (List.mem_erase_of_ne hne).mpr (hs y (List.mem_cons_of_mem _ hy))
    rw [List.length_erase_of_mem hx] at this
    have hpos := List.length_pos_of_mem hx
    rw [List.length_cons]
    omega
structure RG (n : Nat) (R : List Row) : Prop where
  seg : ∀ r ∈ R, r.1 ≠ [] ∧ (∀ s ∈ r.1, s ∈ alph7) ∧ r.1.length ≤ n + 1 ∧ valueOk r.2 = true
  nd : (R.map (·.1)).Nodup
  pf : ∀ r ∈ R, ∀ q ∈ R, ∀ l, q.1 = r.1 ++ l → l = []
  size : R.length ≤ 1000
theorem RG.files_nd {n : Nat} {R : List Row} (h : RG n R) : ((files R).map (·.1)).Nodup := by
  have hn := h.nd
  unfold files
  rw [List.nodup_iff_pairwise_ne, List.pairwise_map] at hn ⊢
  rw [List.pairwise_filterMap]
  refine hn.imp fun {a b} hne x hx y hy e => hne ?_
  rw [file_row hx, file_row hy, e]
theorem RG.keys {n : Nat} {R : List Row} (h : RG n R) : ((files R).map (·.1) ++ dirs R).Nodup ∧ ∀ x ∈ (files R).map (·.1) ++ dirs R, x ∈ alph7 := by
  refine ⟨List.nodup_append.mpr ⟨h.files_nd, dirs_nodup R, fun a ha b hb e => ?_⟩, fun x hx => ?_⟩
  · subst e
    obtain ⟨⟨y, p⟩, hy, e⟩ := List.mem_map.mp ha
    have e' : y = a := e
    subst e'
    obtain ⟨r, hr, hf⟩ := List.mem_filterMap.mp hy
    obtain ⟨⟨l, q⟩, hq, hd⟩ := dirs_mem.mp hb
    have e1 := file_row hf
    match l, hd with
    | a :: b :: l, hd =>
      have hd' : a = y := Option.some.inj hd
      subst hd'
      have := h.pf r hr _ hq (b :: l) (by rw [e1]; rfl)
      cases this
  · rcases List.mem_append.mp hx with hx | hx
    · obtain ⟨⟨y, p⟩, hy, e⟩ := List.mem_map.mp hx
      have e' : y = x := e
      subst e'
      obtain ⟨r, hr, hf⟩ := List.mem_filterMap.mp hy
      have e1 := file_row hf
      exact (h.seg r hr).2.1 y (by rw [e1]; exact List.mem_cons_self)
    · obtain ⟨r, hr, hd⟩ := dirs_mem.mp hx
      exact (h.seg r hr).2.1 x (dir_row hd)
theorem RG.len7 {n : Nat} {R : List Row} (h : RG n R) : (files R).length + (dirs R).length ≤ 7 := by
  have := sub_len h.keys.1 h.keys.2
  rw [List.length_append, List.length_map] at this
  exact this
theorem RG.base {n : Nat} {R : List Row} (h : RG n R) (hn : n ≤ 100) : RBase R := by
  refine ⟨fun r hr => ?_, h.keys.1, by have := h.len7; omega, h.size⟩
  obtain ⟨a, b, c, d⟩ := h.seg r hr
  exact ⟨a, fun s hs => alph7_seg s (b s hs), d, by omega⟩
theorem RG.sub {n : Nat} {R : List Row} (h : RG (n + 1) R) (s : Str) : RG n (sub R s) := by
  have ht : ∀ r ∈ FK.sub R s, (s :: r.1, r.2) ∈ R ∧ r.1 ≠ [] := fun r hr => by
    obtain ⟨q, hq, e⟩ := List.mem_filterMap.mp hr
    obtain ⟨e1, e2, e3⟩ := tail_some.mp e
    have : q = (s :: r.1, r.2) := Prod.ext e1 e3
    rw [← this]
    exact ⟨hq, e2⟩
  refine ⟨fun r hr => ?_, ?_, fun r hr q hq l e => ?_, Nat.le_trans (List.length_filterMap_le _ _) h.size⟩
  · obtain ⟨h1, h2⟩ := ht r hr
    obtain ⟨a, b, c, d⟩ := h.seg _ h1
    exact ⟨h2, fun x hx => b x (List.mem_cons_of_mem _ hx), by have c' : r.1.length + 1 ≤ n + 1 + 1 := c; omega, d⟩
  · have hn := h.nd
    unfold FK.sub
    rw [List.nodup_iff_pairwise_ne, List.pairwise_map] at hn ⊢
    rw [List.pairwise_filterMap]
    refine hn.imp fun {a b} hne x hx y hy e => hne ?_
    rw [(tail_some.mp hx).1, (tail_some.mp hy).1, e]
  · exact h.pf _ (ht r hr).1 _ (ht q hq).1 l (by show s :: q.1 = s :: r.1 ++ l; rw [e]; rfl)
theorem RG.nodirs {R : List Row} (h : RG 0 R) : dirs R = [] := by
  cases e : dirs R with
  | nil => rfl
  | cons x l =>
    obtain ⟨⟨sg, p⟩, hr, hd⟩ := dirs_mem.mp (show x ∈ dirs R by rw [e]; exact List.mem_cons_self)
    have := (h.seg _ hr).2.2.1
    match sg, hd with
    | a :: b :: l, hd =>
      have this' : l.length + 1 + 1 ≤ 0 + 1 := this
      omega
theorem RG.ok : ∀ {n : Nat} {R : List Row}, n ≤ 100 → RG n R → ROk n R
  | 0, R, hn, h => ⟨h.base hn, by have := h.len7; omega, h.nodirs⟩
  | n + 1, R, hn, h => ⟨h.base hn, by have := h.len7; omega, fun s _ => RG.ok (by omega) (h.sub s)⟩
def tCnt : Nat → Nat
  | 0 => 1
  | n + 1 => 7 * tCnt n + 1
theorem flatMap_len {α β : Type} (f : α → List β) (b : Nat) : ∀ l : List α, (∀ x ∈ l, (f x).length ≤ b) → (l.flatMap f).length ≤ b * l.length
  | [], _ => Nat.le_refl _
  | x :: l, h => by
    rw [List.flatMap_cons, List.length_append, List.length_cons, Nat.mul_add]
    have h1 := h x List.mem_cons_self
    have h2 := flatMap_len f b l fun y hy => h y (List.mem_cons_of_mem _ hy)
    omega
theorem RG.trees : ∀ {n : Nat} {R : List Row}, RG n R → (trees n R).length ≤ tCnt n
  | 0, R, _ => Nat.le_refl _
  | n + 1, R, h => by
    show (_ ++ [_]).length ≤ 7 * tCnt n + 1
    rw [List.length_append]
    have h1 := flatMap_len (fun s => FK.trees n (FK.sub R s)) (tCnt n) (dirs R) fun s _ => RG.trees (h.sub s)
    have h2 := h.len7
    have h3 : tCnt n * (dirs R).length ≤ tCnt n * 7 := Nat.mul_le_mul_left _ (by omega)
    show _ + 1 ≤ _
    omega
theorem rows_good {n : Nat} {fs : Fls} (h : LFiles alph7 (n + 1) fs) (hl : fs.length ≤ 80) : RG n (rowsOf fs) := by
  refine ⟨fun r hr => ?_, ?_, fun r hr q hq l e => ?_, by rw [(rows_get fs).1]; omega⟩
  · obtain ⟨a, b, c, d⟩ := (rows_mem (sg := r.1) (p := r.2) alph7_nosl h).mp hr
    exact ⟨a, b, c, h.val _ d⟩
  · have hn := srt_nodup h.nd
    unfold rowsOf
    rw [List.nodup_iff_pairwise_ne] at hn ⊢
    rw [List.pairwise_map, List.pairwise_filterMap]
    refine hn.imp fun {a b} hne x hx y hy e => hne ?_
    obtain ⟨p, hp, rfl⟩ := Option.map_eq_some_iff.mp hx
    obtain ⟨q, hq, rfl⟩ := Option.map_eq_some_iff.mp hy
    obtain ⟨sg, e1, g1, _, g3⟩ := h.seg _ (valS_some hp)
    obtain ⟨sg2, e2, k1, _, k3⟩ := h.seg _ (valS_some hq)
    have e1' : a = jn sg := e1
    have e2' : b = jn sg2 := e2
    have e' : Txt.split a "/" = Txt.split b "/" := e
    rw [e1', e2', split_jn g1 fun s hs => alph7_nosl s (g3 s hs), split_jn k1 fun s hs => alph7_nosl s (k3 s hs)] at e'
    rw [e1', e2', e']
  · obtain ⟨a, b, c, d⟩ := (rows_mem (sg := r.1) (p := r.2) alph7_nosl h).mp hr
    obtain ⟨a2, b2, c2, d2⟩ := (rows_mem (sg := q.1) (p := q.2) alph7_nosl h).mp hq
    cases l with
    | nil => rfl
    | cons x l =>
      have := h.pre _ d _ d2
      have hs : Txt.startswith (jn q.1) (jn r.1 ++ ("/" : Str)) = true := by
        rw [jn_slash a]
        exact (fr_front a2 (fun s hs => alph7_nosl s (b s hs)) fun s hs => alph7_nosl s (b2 s hs)).mpr ⟨x :: l, by simp, e⟩
      have this' : Txt.startswith (jn q.1) (jn r.1 ++ ("/" : Str)) = false := this
      rw [hs] at this'
      cases this'
theorem above_jn {sg : List Str} (h1 : sg ≠ []) (h2 : ∀ s ∈ sg, NoSl s) {f : Str} (hf : f ∈ aboveS (jn sg)) : ∃ p r, p ≠ [] ∧ r ≠ [] ∧ sg = p ++ r ∧ f = jn p := by
  unfold aboveS at hf
  rw [split_jn h1 h2] at hf
  obtain ⟨i, hi, rfl⟩ := List.mem_map.mp hf
  rw [List.mem_range] at hi
  refine ⟨sg.take (i + 1), sg.drop (i + 1), ?_, ?_, (List.take_append_drop _ _).symm, rfl⟩
  · cases sg with
    | nil => exact absurd rfl h1
    | cons a l => simp
  · intro z
    have := congrArg List.length z
    rw [List.length_drop] at this
    simp at this
    omega
theorem txOk_iff (x : Str) : txOk x = true ↔ ∀ c ∈ tl x, c < 0x110000 := by
  unfold txOk tl
  rw [← Array.all_toList, List.all_eq_true]
  simp
theorem txOk_jn : ∀ sg : List Str, (∀ s ∈ sg, txOk s = true) → txOk (jn sg) = true
  | [], _ => by decide +kernel
  | [s], h => by rw [jn_one]; exact h s List.mem_cons_self
  | s :: t :: l, h => by
    rw [jn_cons (by simp), txOk_iff]
    intro c hc
    rw [tl_append, tl_append, List.mem_append, List.mem_append, tl_slash] at hc
    rcases hc with (hc | hc) | hc
    · exact (txOk_iff s).mp (h s List.mem_cons_self) c hc
    · rw [List.mem_singleton.mp hc]; decide
    · exact (txOk_iff _).mp (txOk_jn (t :: l) fun x hx => h x (List.mem_cons_of_mem _ hx)) c hc
theorem files_ok {n : Nat} (hn : n ≤ 5) {fs : Fls} (h : LFiles alph7 (n + 1) fs) (hl : fs.length ≤ 80) : FilesOk fs := by
  have hp : ∀ f ∈ fs, isPathS f.1 = true ∧ f.1.length ≤ 4000 ∧ txOk f.1 = true := fun f hf => by
    obtain ⟨sg, e, g1, g2, g3⟩ := h.seg f hf
    have hns : ∀ s ∈ sg, NoSl s := fun s hs => alph7_nosl s (g3 s hs)
    have hpath : isPathS f.1 = true := by
      unfold isPathS
      rw [e, split_jn g1 hns, Bool.and_eq_true]
      exact ⟨decide_eq_true (by omega), List.all_eq_true.mpr fun s hs => alph7_seg s (g3 s hs)⟩
    have := jn_len (b := 3) sg fun s hs => alph7_len s (g3 s hs)
    refine ⟨hpath, by rw [e]; omega, ?_⟩
    rw [e]
    exact txOk_jn sg fun s hs => txOk_seg (alph7_seg s (g3 s hs))
  refine ⟨h.nd, by omega, hp, h.val, ?_⟩
  rintro ⟨z, hz, f, hf, hfm⟩
  obtain ⟨g, hg, rfl⟩ := List.mem_map.mp hz
  obtain ⟨sg, e, g1, g2, g3⟩ := h.seg g hg
  have hns : ∀ s ∈ sg, NoSl s := fun s hs => alph7_nosl s (g3 s hs)
  rw [e] at hf
  obtain ⟨p, r, hp0, hr0, e2, rfl⟩ := above_jn g1 hns hf
  obtain ⟨k, hk, ek⟩ := List.mem_map.mp hfm
  have := h.pre k hk g hg
  rw [ek, e, jn_slash hp0] at this
  rw [(fr_front g1 (fun s hs => hns s (by rw [e2]; exact List.mem_append_left _ hs)) hns).mpr ⟨r, hr0, e2⟩] at this
  cases this
end FK

/-! Forkhaul k08: the walk of files_of over good trees, the mathematics. -/
namespace FK
open PySem PySem.Spec PyProof.Rows L2 TL
open PySem.W (Frag)
def child (ks : List (Str × Th)) (e : Ent) : List Ent := (entsOf ks (some e.2.2)).getD []
def TG (ks : List (Str × Th)) : Nat → List Ent → Prop
  | 0, _ => False
  | n + 1, es => es.length ≤ 7 ∧ (∀ e ∈ es, e.1.length ≤ 12) ∧ ∀ e ∈ es, e.2.1 = ("dir" : Str) → ∃ cs, entsOf ks (some e.2.2) = some cs ∧ TG ks n cs
def flT (ks : List (Str × Th)) : Nat → Str → List Ent → Fls
  | 0, _, _ => []
  | n + 1, f, es => es.flatMap fun e => if e.2.1 = ("dir" : Str) then flT ks n (f ++ e.1 ++ ("/" : Str)) (child ks e) else [(f ++ e.1, e.2)]
theorem puts_mem {f : Str} {e : Str × (Str × Str)} : ∀ {es : List Ent} {F : Fls}, e ∈ puts F f es → e ∈ F ∨ ∃ x ∈ es, ¬ x.2.1 = ("dir" : Str) ∧ e = (f ++ x.1, x.2)
  | [], F, h => .inl h
  | x :: es, F, h => by
    have h' : e ∈ puts (if x.2.1 = ("dir" : Str) then F else putS F (f ++ x.1) x.2) f es := h
    rcases puts_mem h' with h | ⟨y, hy, h1, h2⟩
    · by_cases c : x.2.1 = ("dir" : Str)
      · rw [if_pos c] at h; exact .inl h
      · rw [if_neg c] at h
        rcases putS_mem h with h | h
        · exact .inr ⟨x, List.mem_cons_self, c, h⟩
        · exact .inl h
    · exact .inr ⟨y, List.mem_cons_of_mem _ hy, h1, h2⟩
theorem puts_key {f z : Str} : ∀ {es : List Ent} {F : Fls}, (z ∈ F.map (·.1) ∨ ∃ x ∈ es, ¬ x.2.1 = ("dir" : Str) ∧ z = f ++ x.1) → z ∈ (puts F f es).map (·.1)
  | [], F, h => by
    rcases h with h | ⟨x, hx, _⟩
    · exact h
    · cases hx
  | x :: es, F, h => by
    show z ∈ (puts (if x.2.1 = ("dir" : Str) then F else putS F (f ++ x.1) x.2) f es).map (·.1)
    refine puts_key ?_
    rcases h with h | ⟨y, hy, h1, h2⟩
    · by_cases c : x.2.1 = ("dir" : Str)
      · rw [if_pos c]; exact .inl h
      · rw [if_neg c, putS_key]; exact .inl (.inr h)
    · rcases List.mem_cons.mp hy with rfl | hy
      · rw [if_neg h1, putS_key]; exact .inl (.inl h2)
      · exact .inr ⟨y, hy, h1, h2⟩
/-- what a good tree does to the files found -/
structure Grow (ks : List (Str × Th)) (L F F1 : Fls) : Prop where
  nd : (F1.map (·.1)).Nodup
  mem : ∀ e ∈ F1, e ∈ F ∨ e ∈ L
  key : ∀ x, x ∈ F.map (·.1) ∨ x ∈ L.map (·.1) → x ∈ F1.map (·.1)
def itm (f : Str) (e : Ent) : Ah := (f ++ e.1 ++ ("/" : Str), .str e.2.2, some e.2.2)
def RunsTo (ks : List (Str × Th)) (st : List Ah) (F F1 : Fls) (l : List Ah) (b : Nat) : Prop := ∀ W F' W', st.length + b ≤ 3900 → W.length ≤ 900 → (∃ m, Runs ks m st F1 W F' W') → ∃ m, Runs ks m (st ++ l) F W F' W'
theorem run_list {ks : List (Str × Th)} {n : Nat} {f : Str} {Gk : List Str} (ih : ∀ (f : Str) (z : Str) (es : List Ent), entsOf ks (some z) = some es → TG ks n es → f.length + 13 * n ≤ 3900 → (∀ e ∈ flT ks n f es, e.1 ∈ Gk) → ∀ F : Fls, (F.map (·.1)).Nodup → (∀ e ∈ F, e.1 ∈ Gk) →
      ∃ F1, Grow ks (flT ks n f es) F F1 ∧ ∀ st, RunsTo ks st F F1 [(f, .str z, some z)] (7 * n)) (hf : f.length + 13 * (n + 1) ≤ 3900) :
    ∀ (l : List Ent), l.length ≤ 7 → (∀ e ∈ l, e.1.length ≤ 12 ∧ ∃ cs, entsOf ks (some e.2.2) = some cs ∧ TG ks n cs) → (∀ e ∈ l.flatMap (fun e => flT ks n (f ++ e.1 ++ ("/" : Str)) (child ks e)), e.1 ∈ Gk) → ∀ F : Fls, (F.map (·.1)).Nodup → (∀ e ∈ F, e.1 ∈ Gk) →
      ∃ F1, Grow ks (l.flatMap (fun e => flT ks n (f ++ e.1 ++ ("/" : Str)) (child ks e))) F F1 ∧ ∀ st, RunsTo ks st F F1 (l.map (itm f)) (l.length + 7 * n)
  | [], _, _, _, F, hF, _ => ⟨F, ⟨hF, fun e h => .inl h, fun x h => by rcases h with h | h; exact h; cases h⟩, fun st W F' W' _ _ h => by rw [List.map_nil, List.append_nil]; exact h⟩
  | e :: l, hl, hc, hG, F, hF, hFG => by
    obtain ⟨F1, g1, r1⟩ := run_list ih hf l (by rw [List.length_cons] at hl; omega) (fun x hx => hc x (List.mem_cons_of_mem _ hx)) (fun x hx => hG x (by rw [List.flatMap_cons]; exact List.mem_append_right _ hx)) F hF hFG
    obtain ⟨he, cs, h1, h2⟩ := hc e List.mem_cons_self
    have hch : child ks e = cs := by unfold child; rw [h1]; rfl
    have e1 : (Str.ofString "/").length = 1 := by decide +kernel
    obtain ⟨F2, g2, r2⟩ := ih (f ++ e.1 ++ ("/" : Str)) e.2.2 cs h1 h2 (by rw [len_app, len_app, e1]; omega) (fun x hx => hG x (by rw [List.flatMap_cons, hch]; exact List.mem_append_left _ hx)) F1 g1.nd (fun x hx => by
      rcases g1.mem x hx with h | h
      · exact hFG x h
      · exact hG x (by rw [List.flatMap_cons]; exact List.mem_append_right _ h))
    refine ⟨F2, ⟨g2.nd, fun x hx => ?_, fun x hx => ?_⟩, fun st W F' W' hb hW hr => ?_⟩
    · rw [List.flatMap_cons, hch, List.mem_append]
      rcases g2.mem x hx with h | h
      · rcases g1.mem x h with h | h
        · exact .inl h
        · exact .inr (.inr h)
      · exact .inr (.inl h)
    · rw [List.flatMap_cons, hch, List.map_append, List.mem_append] at hx
      rcases hx with h | h | h
      · exact g2.key x (.inl (g1.key x (.inl h)))
      · exact g2.key x (.inr h)
      · exact g2.key x (.inl (g1.key x (.inr h)))
    · rw [List.length_cons] at hb
      have := r1 (st ++ [itm f e]) W F' W' (by rw [List.length_append]; show st.length + 1 + _ ≤ _; omega) hW (r2 st W F' W' (by omega) hW hr)
      rw [List.append_assoc] at this
      exact this
theorem pushes_eq (f : Str) (es : List Ent) : pushes f es = (es.filter fun e => decide (e.2.1 = ("dir" : Str))).map (itm f) := by
  unfold pushes
  induction es with
  | nil => rfl
  | cons e es ih =>
    rw [List.filterMap_cons, List.filter_cons]
    by_cases c : e.2.1 = ("dir" : Str)
    · rw [if_pos c, if_pos (decide_eq_true c), ih]; rfl
    · rw [if_neg c, if_neg (by rw [decide_eq_false c]; exact Bool.false_ne_true), ih]
theorem flT_mem {ks : List (Str × Th)} {n : Nat} {f : Str} {es : List Ent} {x : Str × (Str × Str)} : x ∈ flT ks (n + 1) f es ↔ (∃ e ∈ es, ¬ e.2.1 = ("dir" : Str) ∧ x = (f ++ e.1, e.2)) ∨ x ∈ (es.filter fun e => decide (e.2.1 = ("dir" : Str))).flatMap (fun e => flT ks n (f ++ e.1 ++ ("/" : Str)) (child ks e)) := by
  show x ∈ es.flatMap _ ↔ _
  rw [List.mem_flatMap, List.mem_flatMap]
  constructor
  · rintro ⟨e, he, hx⟩
    by_cases c : e.2.1 = ("dir" : Str)
    · rw [if_pos c] at hx
      exact .inr ⟨e, List.mem_filter.mpr ⟨he, decide_eq_true c⟩, hx⟩
    · rw [if_neg c] at hx
      exact .inl ⟨e, he, c, List.mem_singleton.mp hx⟩
  · rintro (⟨e, he, c, hx⟩ | ⟨e, he, hx⟩)
    · exact ⟨e, he, by rw [if_neg c, hx]; exact List.mem_singleton.mpr rfl⟩
    · obtain ⟨h1, h2⟩ := List.mem_filter.mp he
      exact ⟨e, h1, by rw [if_pos (of_decide_eq_true h2)]; exact hx⟩
theorem run_good {ks : List (Str × Th)} {Gk : List Str} (hGl : Gk.length ≤ 3900) : ∀ (n : Nat) (f : Str) (z : Str) (es : List Ent), entsOf ks (some z) = some es → TG ks n es → f.length + 13 * n ≤ 3900 → (∀ e ∈ flT ks n f es, e.1 ∈ Gk) → ∀ F : Fls, (F.map (·.1)).Nodup → (∀ e ∈ F, e.1 ∈ Gk) →
      ∃ F1, Grow ks (flT ks n f es) F F1 ∧ ∀ st, RunsTo ks st F F1 [(f, .str z, some z)] (7 * n)
  | 0, _, _, _, _, h, _, _, _, _, _ => h.elim
  | n + 1, f, z, es, he, ht, hf, hG, F, hF, hFG => by
    obtain ⟨h7, hnm, hd⟩ := ht
    have hl := List.length_filter_le (fun e : Ent => decide (e.2.1 = ("dir" : Str))) es
    have hlen : ∀ F : Fls, (F.map (·.1)).Nodup → (∀ e ∈ F, e.1 ∈ Gk) → F.length ≤ 3900 := fun F h1 h2 => by
      have := sub_len h1 (m := Gk) fun x hx => by
        obtain ⟨e, he, rfl⟩ := List.mem_map.mp hx
        exact h2 e he
      rw [List.length_map] at this
      omega
    have hp : ((puts F f es).map (·.1)).Nodup := puts_nodup f es F hF
    obtain ⟨F1, g1, r1⟩ := run_list (run_good hGl n) hf (es.filter fun e => decide (e.2.1 = ("dir" : Str))) (by omega) (fun e hm => by
      obtain ⟨h1, h2⟩ := List.mem_filter.mp hm
      exact ⟨hnm e h1, hd e h1 (of_decide_eq_true h2)⟩) (fun e hm => hG e (flT_mem.mpr (.inr hm))) (puts F f es) hp (fun e hm => by
      rcases puts_mem hm with h | ⟨x, hx, h1, h2⟩
      · exact hFG e h
      · exact hG e (flT_mem.mpr (.inl ⟨x, hx, h1, h2⟩)))
    refine ⟨F1, ⟨g1.nd, fun e hm => ?_, fun x hx => ?_⟩, fun st W F' W' hb hW hr => ?_⟩
    · rcases g1.mem e hm with h | h
      · rcases puts_mem h with h | ⟨x, hx, h1, h2⟩
        · exact .inl h
        · exact .inr (flT_mem.mpr (.inl ⟨x, hx, h1, h2⟩))
      · exact .inr (flT_mem.mpr (.inr h))
    · rcases hx with h | h
      · exact g1.key x (.inl (puts_key (.inl h)))
      · obtain ⟨e, hm, rfl⟩ := List.mem_map.mp h
        rcases flT_mem.mp hm with ⟨y, hy, h1, h2⟩ | h
        · exact g1.key _ (.inl (puts_key (.inr ⟨y, hy, h1, by rw [h2]⟩)))
        · exact g1.key _ (.inr (List.mem_map_of_mem h))
    · obtain ⟨m, hm⟩ := r1 st W F' W' (by omega) hW hr
      refine ⟨m + 1, .step (by omega) (by omega) (by have := hlen F hF hFG; omega) hW ?_⟩
      rw [he]
      show Runs ks m (st ++ pushes f es) (puts F f es) W F' W'
      rw [pushes_eq]
      exact hm
theorem value_dir {p : Str × Str} (h : valueOk p = true) : ¬ p.1 = ("dir" : Str) := fun e => by
  unfold valueOk at h
  rw [e, Bool.and_eq_true] at h
  exact absurd h.1 (by decide +kernel)
theorem held_mem {n : Nat} {R : List Row} (h : ROk n R) {e : Ent} : e ∈ held n R ↔ e ∈ entL (n - 1) R := by
  have nE : ((entL (n - 1) R).map (·.1)).Nodup := by rw [entL_keys]; exact h.base.nd
  rw [held_eq h]
  constructor
  · exact ents_mem
  · intro he
    have := valS_ents nE e.1
    rw [valS_of_mem nE (show (e.1, e.2) ∈ _ from he)] at this
    exact valS_some this
theorem ents_of {ks : List (Str × Th)} {es : List Ent} (h : valS ks (hid (.tree es)) = some (.tree es)) : entsOf ks (some (hid (.tree es))) = some es := by
  unfold entsOf
  simp only [h]
theorem held_in {n : Nat} {R : List Row} : Th.tree (held n R) ∈ trees n R := by
  cases n with
  | zero => exact List.mem_cons_self
  | succ n => exact List.mem_append_right _ List.mem_cons_self
/-- the trees of good rows are good -/
theorem tg_of {ks : List (Str × Th)} : ∀ {n : Nat} {R : List Row}, RG n R → n ≤ 90 → (∀ t ∈ trees n R, valS ks (hid t) = some t) → TG ks (n + 1) (held n R) := by
  intro n
  induction n with
  | zero =>
    intro R h hn ht
    have hro := h.ok (by omega)
    have hB := hro.base
    refine ⟨by rw [held_eq hro, (ents_get (by rw [entL_keys]; exact hB.nd)).1, entL_len]; exact h.len7, fun e he => segLen (entL_ok hB e (held_mem hro |>.mp he)).seg, fun e he hd => ?_⟩
    rcases List.mem_append.mp ((held_mem hro).mp he) with he | he
    · obtain ⟨r, hr, hf⟩ := List.mem_filterMap.mp he
      have := (h.seg r hr).2.2.2
      rw [file_row hf] at this
      exact absurd hd (value_dir this)
    · rw [h.nodirs] at he; cases he
  | succ n ih =>
    intro R h hn ht
    have hro := h.ok (by omega)
    have hB := hro.base
    refine ⟨by rw [held_eq hro, (ents_get (by rw [entL_keys]; exact hB.nd)).1, entL_len]; exact h.len7, fun e he => segLen (entL_ok hB e (held_mem hro |>.mp he)).seg, fun e he hd => ?_⟩
    rcases List.mem_append.mp ((held_mem hro).mp he) with he | he
    · obtain ⟨r, hr, hf⟩ := List.mem_filterMap.mp he
      have := (h.seg r hr).2.2.2
      rw [file_row hf] at this
      exact absurd hd (value_dir this)
    · obtain ⟨s, hs, rfl⟩ := List.mem_map.mp he
      have hts : ∀ t ∈ trees n (sub R s), valS ks (hid t) = some t := fun t htm => ht t (List.mem_append_left _ (List.mem_flatMap.mpr ⟨s, hs, htm⟩))
      exact ⟨held n (sub R s), ents_of (hts _ held_in), ih (h.sub s) (by omega) hts⟩
/-- the files of the trees of good rows -/
theorem fl_of {ks : List (Str × Th)} : ∀ {n : Nat} {R : List Row} {f : Str}, RG n R → n ≤ 90 → (∀ t ∈ trees n R, valS ks (hid t) = some t) → ∀ x, x ∈ flT ks (n + 1) f (held n R) ↔ ∃ r ∈ R, x = (f ++ jn r.1, r.2) := by
  have fil : ∀ {n : Nat} {R : List Row} {f : Str}, RG n R → n ≤ 90 → ∀ x : Str × (Str × Str), (∃ e ∈ held n R, ¬ e.2.1 = ("dir" : Str) ∧ x = (f ++ e.1, e.2)) ↔ ∃ r ∈ R, r.1.length = 1 ∧ x = (f ++ jn r.1, r.2) := by
    intro n R f h hn x
    have hro := h.ok (by omega)
    constructor
    · rintro ⟨e, he, hd, hx⟩
      rcases List.mem_append.mp ((held_mem hro).mp he) with he | he
      · obtain ⟨r, hr, hf⟩ := List.mem_filterMap.mp he
        have e1 := file_row hf
        exact ⟨r, hr, by rw [e1]; rfl, by rw [hx, e1, jn_one]⟩
      · obtain ⟨s, hs, rfl⟩ := List.mem_map.mp he
        exact absurd rfl hd
    · rintro ⟨⟨l, p⟩, hr, h1, hx⟩
      match l, h1 with
      | [y], _ =>
        refine ⟨(y, p), (held_mem hro).mpr (List.mem_append_left _ (List.mem_filterMap.mpr ⟨_, hr, rfl⟩)), value_dir (h.seg _ hr).2.2.2, ?_⟩
        rw [hx]
        show (f ++ jn [y], p) = _
        rw [jn_one]
  intro n
  induction n with
  | zero =>
    intro R f h hn ht x
    rw [flT_mem, fil h hn x]
    constructor
    · rintro (⟨r, hr, _, hx⟩ | hx)
      · exact ⟨r, hr, hx⟩
      · obtain ⟨e, _, he⟩ := List.mem_flatMap.mp hx
        cases he
    · rintro ⟨r, hr, hx⟩
      have := h.seg r hr
      refine .inl ⟨r, hr, ?_, hx⟩
      have h2 := this.2.2.1
      cases hl : r.1 with
      | nil => exact absurd hl this.1
      | cons a l => rw [hl] at h2; simp only [List.length_cons] at h2 ⊢; omega
  | succ n ih =>
    intro R f h hn ht x
    have hro := h.ok (by omega)
    rw [flT_mem, fil h hn x]
    have hts : ∀ s ∈ dirs R, ∀ t ∈ trees n (sub R s), valS ks (hid t) = some t := fun s hs t htm => ht t (List.mem_append_left _ (List.mem_flatMap.mpr ⟨s, hs, htm⟩))
    have hch : ∀ s ∈ dirs R, child ks (s, ("dir" : Str), hid (.tree (held n (sub R s)))) = held n (sub R s) := fun s hs => by
      unfold child
      show (entsOf ks (some (hid (.tree (held n (sub R s)))))).getD [] = _
      rw [ents_of (hts s hs _ held_in)]
      rfl
    constructor
    · rintro (⟨r, hr, _, hx⟩ | hx)
      · exact ⟨r, hr, hx⟩
      · obtain ⟨e, hem, he⟩ := List.mem_flatMap.mp hx
        obtain ⟨he1, he2⟩ := List.mem_filter.mp hem
        rcases List.mem_append.mp ((held_mem hro).mp he1) with he1 | he1
        · obtain ⟨r, hr, hf⟩ := List.mem_filterMap.mp he1
          have := (h.seg r hr).2.2.2
          rw [file_row hf] at this
          exact absurd (of_decide_eq_true he2) (value_dir this)
        · obtain ⟨s, hs, rfl⟩ := List.mem_map.mp he1
          have he' : x ∈ flT ks (n + 1) (f ++ s ++ ("/" : Str)) (child ks (s, ("dir" : Str), hid (.tree (held n (sub R s))))) := he
          rw [hch s hs, ih (h.sub s) (by omega) (hts s hs)] at he'
          obtain ⟨r, hr, hx⟩ := he'
          obtain ⟨q, hq, hqr⟩ := List.mem_filterMap.mp hr
          obtain ⟨a1, a2, a3⟩ := tail_some.mp hqr
          refine ⟨q, hq, ?_⟩
          rw [hx, a1, a3, jn_cons a2, str_append_assoc, str_append_assoc, str_append_assoc]
    · rintro ⟨⟨l, p⟩, hr, hx⟩
      match l, (h.seg _ hr).1 with
      | [y], _ => exact .inl ⟨_, hr, rfl, hx⟩
      | y :: y2 :: l, _ =>
        have hs : y ∈ dirs R := dirs_mem.mpr ⟨_, hr, rfl⟩
        refine .inr (List.mem_flatMap.mpr ⟨(y, ("dir" : Str), hid (.tree (held n (sub R y)))), List.mem_filter.mpr ⟨(held_mem hro).mpr (List.mem_append_right _ (List.mem_map.mpr ⟨y, hs, rfl⟩)), decide_eq_true rfl⟩, ?_⟩)
        rw [hch y hs]
        show x ∈ flT ks (n + 1) (f ++ y ++ ("/" : Str)) (held n (sub R y))
        rw [ih (h.sub y) (by omega) (hts y hs)]
        refine ⟨(y2 :: l, p), List.mem_filterMap.mpr ⟨_, hr, tail_some.mpr ⟨rfl, by simp, rfl⟩⟩, ?_⟩
        rw [hx]
        show (f ++ jn (y :: y2 :: l), p) = (f ++ y ++ ("/" : Str) ++ jn (y2 :: l), p)
        rw [jn_cons (by simp), str_append_assoc, str_append_assoc, str_append_assoc]
end FK

/-! Forkhaul k08: d[None] = v, d[a tuple] = v. -/
namespace L2
open PySem PySem.Spec PyProof.Rows
section
variable {P : Program} {w : World} {h : Heap} {a : Addr}
theorem pairs_none : ∀ {es : List DictEntry} {vs : List (Key × Value)}, Pairs (mixKind P w) es vs → Pairs (noneKind P w) es (vs.map fun kv => (some kv.1, kv.2))
  | _, _, .nil => .nil
  | _, _, .cons h1 h2 h3 => .cons h1 h2 (pairs_none h3)
theorem none_dict {vs : List (Key × Value)} (d : h.DictOf (mixKind P w) a vs) : h.DictOf (noneKind P w) a (vs.map fun kv => (some kv.1, kv.2)) := by
  obtain ⟨o, es, ep, ho, hx, hdt, hk, hp, hn⟩ := d
  refine ⟨o, es, ep, ho, hx, hdt, fun e he => ?_, pairs_none hp, ?_⟩
  · obtain ⟨k, h1, h2⟩ := hk e he
    exact ⟨some k, h1, h2⟩
  · rw [List.map_map]
    have : ((fun kv : Option Key × Value => kv.1) ∘ fun kv : Key × Value => (some kv.1, kv.2)) = fun kv => some kv.1 := rfl
    rw [List.nodup_iff_pairwise_ne, List.pairwise_map] at hn ⊢
    exact hn.imp fun q e => q (Option.some.inj e)
theorem rel_key {k : Key} {v : Value} (h : keyIs k v = true) : RelV (kV k) v := by
  rcases keyIs_shape h with ⟨j, t, rfl, rfl⟩ | ⟨y, t, rfl, rfl⟩
  · exact ⟨t, rfl⟩
  · exact ⟨t, rfl⟩
def okV : Option Key → V
  | none => .non
  | some k => kV k
theorem vals_keys : ∀ {es : List DictEntry} {vs : List (Option Key × Value)}, Pairs (noneKind P w) es vs → Vals (vs.map fun kv => okV kv.1) (es.map (·.key))
  | _, _, .nil => .nil
  | e :: es, (k, v) :: vs, .cons h1 h2 h3 => by
    refine .cons ?_ (vals_keys h3)
    cases k with
    | none => exact nk_none h1
    | some k => exact rel_key h1
theorem stored_none {vs : List (Key × Value)} {v : Value} : stored (vs.map fun kv => (some kv.1, kv.2)) (none : Option Key) v = (vs.map fun kv => (some kv.1, kv.2)) ++ [(none, v)] := by
  unfold stored
  rw [if_neg]
  rw [List.any_map, List.any_eq_true]
  rintro ⟨x, _, h⟩
  have h' : decide ((some x.1 : Option Key) = none) = true := h
  exact absurd (of_decide_eq_true h') (by intro z; cases z)
theorem kv_keys : ∀ {kvs : List (Key × V)} {vs : List (Key × Value)}, KV kvs vs → kvs.map (·.1) = vs.map (·.1)
  | _, _, .nil => rfl
  | _, _, .cons h r => by rw [List.map_cons, List.map_cons, kv_keys r, h.1]
end
section
variable {X : Cx} {pins : List (Addr × Obj)} {σ : St} {H : Hp} {s : Shared} {a : Addr} {kvs : List (Key × V)} {A : Around} {E : Value → Shared → Prop}
theorem d_setNone {r : Value} {Q : Unit → Shared → Prop} (I : Inv X pins σ H s) (e : H a = some (.dK kvs)) (h : ∀ s', Inv X pins σ (upd H a (RawO a (kvs.map (fun kv => kV kv.1) ++ [.non]))) s' → Q () s') :
    wpAny (model X.prog X.w) A (setItem (.ref a) .none r) Q E s := by
  obtain ⟨z, hd, vs, rel, dd⟩ := dk_of I.hok e
  have hz : (vs.map fun kv : Key × Value => (some kv.1, kv.2)).length ≤ sizeLine := by rw [List.length_map, ← rel.length]; exact z
  refine wpAny_setItem_pairs (knd := noneKind X.prog X.w) (k := none) (hsz := hz) rfl (none_dict dd) fun h' dd' hs => h _ ?_
  rw [stored_none] at dd'
  obtain ⟨o, es, ep, ho, hx, hdt, hk, hp, hn⟩ := dd'
  have hv := vals_keys hp
  rw [List.map_append, List.map_map] at hv
  refine d_write I (by rw [e]; exact True.intro) hs ⟨o, ho⟩ (rawO_ok ⟨hd, o, es, ep, ho, hx, hdt, ?_⟩)
  have : (kvs.map fun kv => kV kv.1) = vs.map ((fun kv : Option Key × Value => okV kv.1) ∘ fun kv : Key × Value => (some kv.1, kv.2)) := by
    have hk := congrArg (List.map kV) (kv_keys rel)
    rw [List.map_map, List.map_map] at hk
    exact hk
  rw [this]
  exact hv
end
/-! ### a tuple among texts -/
section
variable {prog : Program} {w : World} {A : Around} {E : Value → Shared → Prop} {s : Shared}
theorem mayTell_strs {a : Addr} {stored : List Value} {Q : Bool → Shared → Prop} (hq : ∀ {Q : Bool → Shared → Prop}, Q true s → wpAny (model prog w) A (eqIsQuiet 8 (.ref a)) Q E s)
    (hst : ∀ v ∈ stored, carriedByValue v = true) (h : Q false s) : wpAny (model prog w) A (tableMayTell (.ref a) stored) Q E s := by
  unfold tableMayTell
  split
  · exact wpAny_pure h
  · refine wpAny_bind (hq ?_)
    simp only [Bool.not_true, Bool.false_eq_true, if_false]
    refine wpAny_bind ?_
    refine wpAny_forIn_list _ (fun rest r s' => s' = s ∧ r = (none, ()) ∧ ∀ v ∈ rest, carriedByValue v = true) _ ?_ ?_ _ _ ⟨rfl, rfl, hst⟩
    · rintro x rest r s' ⟨rfl, rfl, hr⟩
      rw [eqIsQuiet_byValue _ (hr x List.mem_cons_self)]
      refine wpAny_bind (wpAny_pure ?_)
      simp only [Bool.not_true, Bool.false_eq_true, if_false]
      exact wpAny_pure ⟨rfl, rfl, fun v hv => hr v (List.mem_cons_of_mem _ hv)⟩
    · rintro r s' ⟨rfl, rfl, _⟩
      exact wpAny_pure h
theorem find_tup {d a : Addr} {o : Obj} {es : Array DictEntry} {ep : Nat} {hh : Int} {Q : Option Nat → Shared → Prop} (ho : s.heap.get? d = some o) (hd : o.data = .dict es ep) (hst : ∀ e ∈ es, ∃ x t, e.key = .str x t)
    (hq : ∀ {Q : Bool → Shared → Prop}, Q true s → wpAny (model prog w) A (eqIsQuiet 8 (.ref a)) Q E s) (heq : ∀ x t {Q : Bool → Shared → Prop}, Q false s → wpAny (model prog w) A (eqBool (.str x t) (.ref a)) Q E s) (h : Q none s) :
    wpAny (model prog w) A (dictFind d (.ref a) hh) Q E s := by
  have hcv : ∀ v ∈ (placesWithHash es.size (fun i => es[i]?.map (·.hash)) hh).filterMap (fun i => es[i]?.map (·.key)), carriedByValue v = true := by
    intro v hv
    obtain ⟨i, _, hi⟩ := List.mem_filterMap.mp hv
    cases hei : es[i]? with
    | none => rw [hei] at hi; cases hi
    | some e =>
      rw [hei] at hi
      obtain rfl : e.key = v := by simpa using hi
      obtain ⟨x, t, e1⟩ := hst e (Array.mem_of_getElem? hei)
      rw [e1]; rfl
  have hany : ¬ (es.any fun e => e.key == Value.ref a && e.hash != hh) = true := by
    rw [← Array.any_toList, List.any_eq_true]
    rintro ⟨e, hin, hc⟩
    obtain ⟨x, t, e1⟩ := hst e (Array.mem_toList_iff.mp hin)
    rw [Bool.and_eq_true, e1] at hc
    exact absurd (eq_of_beq hc.1) (by intro z; cases z)
  unfold dictFind
  try with_reducible refine wpAny_holding ?_
  refine wpAny_bind (wpAny_dictEntries ho hd ?_)
  dsimp only
  rw [if_neg (show ¬ ((Value.ref a :: (placesWithHash es.size (fun i => es[i]?.map (·.hash)) hh).filterMap (fun i => es[i]?.map (·.key))).all carriedByValue) = true by simp [carriedByValue])]
  rw [if_neg hany]
  have hone : ¬ (((placesWithHash es.size (fun i => es[i]?.map (·.hash)) hh).filterMap (fun i => es[i]?.map (·.key))) == [Value.ref a]) = true := fun z => by
    have := hcv (.ref a) (by rw [eq_of_beq z]; exact List.mem_cons_self)
    simp [carriedByValue] at this
  rw [if_neg hone]
  refine wpAny_bind (mayTell_strs hq hcv ?_)
  rw [if_neg (by simp)]
  refine wpAny_bind ?_
  refine wpAny_forIn_list _ (fun rest b s' => s' = s ∧ b = (none, none)) _ ?_ ?_ _ _ ⟨rfl, rfl⟩
  · rintro x rest b s' ⟨rfl, rfl⟩
    cases hex : es[x]? with
    | none => exact wpAny_pure ⟨rfl, rfl⟩
    | some e =>
      dsimp only
      obtain ⟨z, t, e1⟩ := hst e (Array.mem_of_getElem? hex)
      by_cases hh2 : (e.hash == hh) = true
      · rw [if_pos hh2]
        refine wpAny_bind (wpAny_dictEpoch ho hd (wpAny_bind ?_))
        rw [e1]
        refine heq z t (wpAny_bind (wpAny_dictEpoch ho hd ?_))
        show wpAny _ _ (if (ep != ep) = true then _ else _) _ E _
        rw [if_neg (by simp)]
        simp only [Bool.false_eq_true, if_false]
        refine wpAny_bind (wpAny_rule ?_)
        first | rw [if_neg (by simp)] | skip
        first
          | exact wpAny_pure ⟨rfl, rfl⟩
          | exact wpAny_bind (wpAny_pure (wpAny_pure ⟨rfl, rfl⟩))
      · rw [if_neg hh2]
        exact wpAny_pure ⟨rfl, rfl⟩
  · rintro b s' ⟨rfl, rfl⟩
    exact wpAny_pure h
theorem set_tup {d a : Addr} {o : Obj} {es : Array DictEntry} {ep : Nat} {ks : List Key} {v : Value} {Q : Unit → Shared → Prop} (hu : (tupleKind (mixKind prog w)).room A.in1) (hu2 : A.in1.units < cLine) (hkey : (tupleKind (mixKind prog w)).is s.heap ks a) (ho : s.heap.get? d = some o) (hx : o.ExactDict) (hd : o.data = .dict es ep) (hz : es.size ≤ sizeLine) (hst : ∀ e ∈ es, ∃ x t, e.key = .str x t)
    (hQ : ∀ h' o' ep' hh, h'.get? d = some o' → o'.ExactDict → o'.data = .dict (es.push ⟨hh, .ref a, v⟩) ep' → Heap.SameBut d s.heap h' → ∀ tk, Q () { s with heap := h', toks := tk }) :
    wpAny (model prog w) A (setItem (.ref d) (.ref a) v) Q E s := by
  have hty : s.TypeIs (.ref d) "dict" := ⟨o, ho, hx.1⟩
  unfold setItem
  try with_reducible refine wpAny_holding ?_
  refine wpAny_bind (wpAny_sequenceKey hty (by decide) ?_)
  refine wpAny_bind (wpAny_callSpecial?_slot (name := Str.ofString "__setitem__") hty slot_dict_setitem
    (wpAny_call_entry slot_dict_setitem hty entry_dict_setitem ?_ (args_dict_setitem _ _ _)))
  show wpAny _ _ (Builtin.Dict.notOrdered "__setitem__" ⟨[.ref d, .ref a, v], []⟩ >>= _) _ _ s
  refine wpAny_bind (wpAny_notOrdered_dict hty ?_)
  show wpAny _ _ (dictSet d (.ref a) v >>= _) _ _ s
  refine wpAny_bind ?_
  unfold dictSet
  try with_reducible refine wpAny_holding ?_
  refine wpAny_bind ((tupleKind (mixKind prog w)).pyHash hu hkey ?_)
  unfold dictSetHashed
  try with_reducible refine wpAny_holding ?_
  refine wpAny_bind (find_tup (s := { s with toks := s.toks + (tupleKind (mixKind prog w)).draws ks }) ho hd hst (fun q => (tupleKind (mixKind prog w)).quiet hkey q) ?_ ?_)
  · intro x t Q hq
    obtain ⟨o', items, n, ho', hc', hd', _⟩ := hkey
    exact SeqAt.EqAt.str_tuple (s := { s with toks := s.toks + (tupleKind (mixKind prog w)).draws ks }) x t ⟨o', ho', hc', n, hd'⟩ hu2 _ _ _ _ hq
  · refine wpAny_bind (wpAny_rule (wpAny_updateDictKeys (hz := hz) (s := { s with toks := s.toks + (tupleKind (mixKind prog w)).draws ks }) ho hd ?_))
    exact wpAny_pure ⟨.none, rfl, wpAny_pure (hQ _ _ (ep + 1) _ (Heap.get?_update_self _ ho (Obj.isFreed_of_dict (Obj.data_mapDictKeys hd _))) (hx.mapDictKeys _) (Obj.data_mapDictKeys hd _) (Heap.SameBut.update ..) _)⟩
end
section
variable {X : Cx} {pins : List (Addr × Obj)} {σ : St} {H : Hp} {s : Shared} {a : Addr} {kvs : List (Key × V)} {A : Around} {E : Value → Shared → Prop}
theorem paired_app1 {α β : Type} {F : α → β → Prop} {a : α} {b : β} : ∀ {l : List α} {m : List β}, Paired F l m → F a b → Paired F (l ++ [a]) (m ++ [b])
  | _, _, .nil, h => .cons h .nil
  | _, _, .cons x r, h => .cons x (paired_app1 r h)
theorem pairs_keys {P : Program} {w : World} : ∀ {es : List DictEntry} {vs : List (Key × Value)}, Pairs (mixKind P w) es vs → Vals (vs.map fun kv => kV kv.1) (es.map (·.key))
  | _, _, .nil => .nil
  | e :: es, (k, v) :: vs, .cons h1 h2 h3 => .cons (rel_key h1) (pairs_keys h3)
theorem pairs_strs {P : Program} {w : World} : ∀ {es : List DictEntry} {vs : List (Key × Value)}, Pairs (mixKind P w) es vs → (∀ kv ∈ vs, ∃ z, kv.1 = .inr z) → ∀ e ∈ es, ∃ x t, e.key = .str x t
  | _, _, .nil, _ => fun e h => by cases h
  | e :: es, (k, v) :: vs, .cons h1 h2 h3, h => fun e' he' => by
    rcases List.mem_cons.mp he' with rfl | he'
    · obtain ⟨z, hz⟩ := h (k, v) List.mem_cons_self
      have hz' : k = .inr z := hz
      subst hz'
      rcases keyIs_shape (show keyIs (.inr z) e'.key = true from h1) with ⟨j, t, e1, e2⟩ | ⟨y, t, e1, e2⟩
      · cases e1
      · exact ⟨y, t, e2⟩
    · exact pairs_strs h3 (fun kv hkv => h kv (List.mem_cons_of_mem _ hkv)) e' he'
theorem d_setTup {b : Addr} {ks : List Key} {r : Value} {Q : Unit → Shared → Prop} (hu : A.units + 1 < cLine) (I : Inv X pins σ H s) (e : H a = some (.dK kvs)) (hs : ∀ kv ∈ kvs, ∃ z, kv.1 = .inr z) (eb : H b = some (.tup (ks.map kV)))
    (h : ∀ s', Inv X pins σ (upd H a (RawO a (kvs.map (fun kv => kV kv.1) ++ [.ref b]))) s' → Q () s') :
    wpAny (model X.prog X.w) A (setItem (.ref a) (.ref b) r) Q E s := by
  obtain ⟨z, hd, vs, rel, dd⟩ := dk_of I.hok e
  obtain ⟨o, es, ep, ho, hx, hdt, hk, hp, hn⟩ := dd
  have hes : es.size ≤ sizeLine := by
    have := hp.length
    rw [Array.length_toList, ← rel.length] at this
    omega
  have hk2 := kv_keys rel
  have hvs : ∀ kv ∈ vs, ∃ z, kv.1 = .inr z := fun kv hkv => by
    have : kv.1 ∈ kvs.map (·.1) := by rw [hk2]; exact List.mem_map_of_mem hkv
    obtain ⟨q, hq, eq⟩ := List.mem_map.mp this
    rw [← eq]
    exact hs q hq
  have hst := pairs_strs hp hvs
  refine set_tup (tupleKind_room_in1 hu) (tupleKind_room_in1 (prog := X.prog) (w := X.w) (knd := mixKind X.prog X.w) hu) (key_of I.hok eb) ho hx hdt hes (fun e he => hst e (Array.mem_toList_iff.mpr he)) fun h' o' ep' hh ho' hx' hd' hsb tk => h _ ?_
  refine d_write I (by rw [e]; exact True.intro) hsb ⟨o', ho'⟩ (rawO_ok ⟨hd, o', _, ep', ho', hx', hd', ?_⟩)
  rw [Array.toList_push, List.map_append]
  have hv := pairs_keys hp
  have hkk : (kvs.map fun kv => kV kv.1) = vs.map fun kv => kV kv.1 := by
    have := congrArg (List.map kV) hk2
    rw [List.map_map, List.map_map] at this
    exact this
  rw [hkk]
  exact paired_app1 hv rfl
end
/-- d[y] = v where y may be None or a tuple, the dict's keys being texts -/
def DPutR (H : Hp) (a : Addr) (y v : V) (H' : Hp) : Prop := DPut H a y v H' ∨ (∃ kvs, H a = some (.dK kvs) ∧ y = .non ∧ H' = upd H a (RawO a (kvs.map (fun kv => kV kv.1) ++ [.non]))) ∨
  ∃ kvs b, ∃ ks : List Key, H a = some (.dK kvs) ∧ (∀ kv ∈ kvs, ∃ z, kv.1 = .inr z) ∧ y = .ref b ∧ H b = some (.tup (ks.map kV)) ∧ H' = upd H a (RawO a (kvs.map (fun kv => kV kv.1) ++ [.ref b]))
def sDPutR (td ty tv : TE) : TS := fun D σ H => tv σ H fun v H1 => td σ H1 fun x H2 => ty σ H2 fun y H3 => ∃ a H4, x = .ref a ∧ DPutR H3 a y v H4 ∧ D.nx σ H4
section
variable {X : Cx} {o i e value : Expr} {pos pos' tpos : Pos} {td ty tv : TE}
theorem ps_dputR (hu : X.A.units + 1 < cLine) (ho : PE X o td) (hi : PE X i ty) (hv : PE X value tv) (hs : swapsWith value (some (.Subscript o i pos')) pos.line X.env = pure false) :
    PS X (.Assign [.Subscript o i pos'] value pos) (sDPutR td ty tv) := by
  refine ⟨fun pins s σ H D I h => ?_⟩
  refine wpAny_Assign_Subscript (thn (hv.run pins s σ H _ I h) fun r s1 ⟨v, H1, I1, rv, q1⟩ => thn (ho.run pins s1 σ H1 _ I1 q1) fun u s2 ⟨x, H2, I2, rx, q2⟩ => thn (hi.run pins s2 σ H2 _ I2 q2) fun iv s3 ⟨y, H3, I3, ry, a, H4, ex, g, q3⟩ => ?_) hs
  subst ex
  obtain rfl : u = Value.ref a := rx
  rcases g with g | ⟨kvs, e, ey, eH⟩ | ⟨kvs, b, ks, e, hk, ey, eb, eH⟩
  · exact d_setItem hu I3 g ry rv fun s4 I4 => ⟨σ, H4, I4, q3⟩
  · subst ey eH
    obtain rfl : iv = Value.none := ry
    exact d_setNone I3 e fun s4 I4 => ⟨σ, _, I4, q3⟩
  · subst ey eH
    obtain rfl : iv = Value.ref b := ry
    exact d_setTup hu I3 e hk eb fun s4 I4 => ⟨σ, _, I4, q3⟩
end
end L2

/-! Forkhaul k08: a sign times a number. -/
namespace L2
open PySem PySem.Spec PyProof.Rows
def rMulS : R2 := fun x y H Q => ∃ (c n : Nat), x = .str ⟨#[c]⟩ ∧ y = .int n ∧ 2 ≤ n ∧ n ≤ 100 ∧ Q (.str ⟨(List.replicate n #[c]).foldl (· ++ ·) #[]⟩) H
theorem mul_len (c n : Nat) : ((List.replicate n #[c]).foldl (· ++ ·) #[]).size = n := by
  have : ∀ (n : Nat) (acc : Array Nat), ((List.replicate n #[c]).foldl (· ++ ·) acc).size = acc.size + n := by
    intro n
    induction n with
    | zero => intro acc; rfl
    | succ n ih =>
      intro acc
      rw [List.replicate_succ, List.foldl_cons, ih, Array.size_append]
      simp
      omega
  rw [this]
  simp
theorem op_mulS {X : Cx} : OpR X (binaryOp .Mult) rMulS := by
  intro pins s σ H x y v u Q I rx ry h
  obtain ⟨c, n, rfl, rfl, h2, h100, q⟩ := h
  obtain ⟨t, rfl⟩ := rx
  obtain ⟨t', rfl⟩ := ry
  have hn1 : ¬ ((n : Int) < 1) := by omega
  refine PySem.P.mul_str (by rw [decide_eq_false (by omega), decide_eq_false (by omega)]; rfl) (fun _ _ => ?_) (fun _ _ => ?_) ?_
  · show ¬ ((1 : Nat) : Int) > (2 ^ 63 - 1) / (n : Int)
    have : (1 : Int) ≤ (2 ^ 63 - 1) / (n : Int) := by
      rw [Int.le_ediv_iff_mul_le (by omega)]
      omega
    omega
  · show decide (1 * (n : Int).toNat > sizeLine) = false
    rw [Int.toNat_natCast]
    exact decide_eq_false (by have : (100 : Nat) ≤ sizeLine := FK.line_of (by decide); omega)
  · rw [if_neg hn1, if_neg (show ¬ (((n : Int) == 1) || ((⟨#[c]⟩ : Str).length == 0)) = true from by
      rw [show ((n : Int) == 1) = false from beq_eq_false_iff_ne.mpr (by omega)]; exact Bool.false_ne_true), Int.toNat_natCast]
    refine ⟨?_, .str _, H, I.tok _, ⟨_, rfl⟩, q⟩
    show ((List.replicate n #[c]).foldl (· ++ ·) #[]).size ≤ sizeLine
    rw [mul_len]
    exact FK.line_of (by omega)
end L2

/-! Forkhaul k08: calls where nothing is being shown (for repr); repr of data; dicts compared with their values' places. -/
namespace FK
open PySem PySem.Spec PyProof.Rows L2

/-- a def, called where no container is being shown -/
structure CalG (P : Program) (w : World) (K : PySem.W.Frag) (mg : Str → Option Value) (base : Heap) (k : Nat) (x : Str) (ps : List Str) (sp : Sp) : Prop where
  mgx : mg x = some (.ref (He.ga K x))
  kp : PySem.W.keepIn K (.ref (He.ga K x)) = true
  len : ∀ vs H Q E, sp vs H Q E → vs.length = ps.length
  run : ∀ (A : Around) (outer : List Env) (s : Shared) (H : Hp) (us : List Value) (vs : List V) (Q : VK), A.guards = some [] → Room k A → Env0 P w K mg base A outer s H → Vals vs us → sp vs H Q E0 → codeAny (model P w) A (.call (.ref (He.ga K x)) ⟨us, []⟩) (CR CX0 outer P w H s Q E0) s
section
variable {P : Program} {w : World} {K : PySem.W.Frag} {mg : Str → Option Value} {base : Heap}
theorem calG0 {x : Str} {st : Stmt} {N ps : List Str} {k : Nat} {sp : Sp} (F : GF K mg x st) (S : FnScope N ps (defScope st))
    (hb : ∀ (kV doc pm : Value) (an : Option Addr) (cdv ct : Value) (us : List Value), us.length = ps.length → bindArgs (PySem.W.fnOf x x (defArgs st) (defBody st) (defScope st) .none kV doc pm an cdv ct) ⟨us, []⟩ = pure (ps.zip us))
    (len : ∀ vs H Q E, sp vs H Q E → vs.length = ps.length)
    (hbody : ∀ (cdv : Value) (A : Around) (outer : List Env) (s : Shared) (H : Hp) (vs : List V) (Q : VK), (A.deeper (envOfC x (defScope st) s.heap.objs.size (He.ga K x) cdv)).guards = some [] → Room k (A.deeper (envOfC x (defScope st) s.heap.objs.size (He.ga K x) cdv)) → sp vs H Q E0 →
      ∃ t, PSs (cxOf CX0 P w K mg base N x (defScope st) (He.ga K x) cdv A outer s H E0).nox (defBody st) t ∧ t { nx := fun _ H' => Q .non H', rt := Q } (start N vs) H) : CalG P w K mg base (k + 1) x ps sp := by
  obtain ⟨fd, FD⟩ := F.fd
  have bn : Binds K fd ps [] := FD.bindsN hb
  have kp := FD.kp
  obtain ⟨oc, od, dV, kV, doc, pm, an, cdv, ct, osl, rfl, lk, hcd, _, _⟩ := FD.ex
  refine ⟨F.mgx, kp, len, fun A outer s H us vs Q hgd hr e0 r hsp => ?_⟩
  have hl := len _ _ _ _ hsp
  have hlu : us.length = ps.length := by rw [← r.length]; exact hl
  have KX : K.In s.heap := e0.mod.kin.keeps fun b o z => (e0.bs b o z).1
  have noL : s.heap.NoLimit := e0.mod.nolimit.keeps fun b o z => (e0.bs b o z).1
  have kinds : ∀ y ∈ ps.zip us, (defScope st).names.lookup y.1 = some .local ∨ ((defScope st).names.lookup y.1 = some .cell ∧ ((cellsFrom (s.heap.objs.size + 1) (defScope st).names []).lookup y.1).isSome = true) := by
    rintro ⟨n, v⟩ hy
    rcases S.par n (List.of_mem_zip hy).1 with z | z
    · exact .inl z
    · exact .inr ⟨z, PySem.W.cellsFrom_some _ _ _ (.inl z)⟩
  have bd := bn s us KX (by rw [List.append_nil]; exact hlu)
  rw [List.append_nil] at bd
  refine codeAny_call_function hr.depth (KX _ _ lk) rfl S.co S.gen rfl (PySem.W.codeRec_of KX hcd) (bd _ _ _ _ ?_)
  refine wpAny_newFunctionEnv_cells S.kind kinds fun env he s1 hx => ?_
  subst he
  refine ⟨noL.keeps hx.toInCall.keep, codeAny_func ?_⟩
  obtain ⟨t, ht0, hq⟩ := hbody cdv A outer s H vs Q hgd (hr.deeper _) hsp
  have ht := ht0.nox
  have I : Inv (cxOf CX0 P w K mg base N x (defScope st) (He.ga K x) cdv A outer s H E0) [] (start N vs) H s1 := inv_start S hr.hd e0 hl r hx
  refine wpAny_mono (ht.run [] s1 (start N vs) H _ I hq) (fun fl s' hs => ?_) fun e s' hs => hs
  cases fl with
  | ret u =>
    obtain ⟨v, σ', H', J, rv, q⟩ := hs
    exact ⟨v, H', J.os, J.bare, J.base, J.hok, rv, q⟩
  | next =>
    obtain ⟨σ', H', J, q⟩ := hs
    exact ⟨V.non, H', J.os, J.bare, J.base, J.hok, rfl, q⟩
  | brk =>
    obtain ⟨_, _, _, q⟩ := hs
    exact q.elim
  | cont =>
    obtain ⟨_, _, _, q⟩ := hs
    exact q.elim
end
section
variable {X : Cx} {k : Nat} {ps : List Str} {sp : Sp} {x : Str} {p pos : Pos} {e : Expr} {es : List Expr} {t : TA}
theorem pcalG (G : CalG X.prog X.w X.K X.mg X.base k x ps sp) (hgd : X.A.guards = some []) (hr : Room k X.A) (hg : Gl X x) (ha : PA X (e :: es) t) (hdb : (x == ("__debug__" : Str)) = false := by decide)
    (he : starEach (e :: es) X.env = (false, eval e X.env) :: starEach es X.env := by rfl) (hpl : (backTo pos (starEach es X.env)).any (·.1) = false := by rfl) :
    PE X (.Call (.Name x p) (e :: es) [] pos) (tCall sp [] E0 t) := by
  refine ⟨fun pins s σ H Q I h => wpAny_Call_Name_kw (ld_glob I hg G.mgx ?_ hdb)⟩
  refine PySem.W.callWith_K (h₀ := X.base) I.ok.mod.kin G.kp (thn (ha.run pos pins s σ H _ I h) fun us s1 z => ?_) he hpl
  obtain ⟨vs, H1, I1, r, q⟩ := z
  refine ⟨I1.kIn, wpAny_call (codeAny_mono (G.run X.A X.stack s1 H1 us (vs ++ []) Q hgd hr I1.env0 (by rw [List.append_nil]; exact r) q) fun r s' hq => ?_)⟩
  cases r with
  | error e => exact hq.elim
  | ok fl =>
    cases fl with
    | ret u => exact I1.after hq
    | next => exact False.elim hq
    | brk => exact False.elim hq
    | cont => exact False.elim hq
/-- nothing is wanted of what is raised: it is not raised -/
theorem passF {X : Cx} : Passes (L2.CX X.prog X.w) X E0 := by
  intro _ _ _ _ _ _ _ h
  obtain ⟨_, _, _, _, _, _, _, _, _, _, _, _, z⟩ := h
  exact z.elim
/-- repr of data without dicts -/
def rReprD (K : PySem.W.Frag) : List V → Hp → VK → Prop := fun xs H Q => ∃ a d, xs = [.ref a] ∧ Dp K H (.ref a) d ∧ d.showable = true ∧ d.hasDict = false ∧ d.depth ≤ 30 ∧ d.shown.length ≤ sizeLine ∧ Q (.str d.shown) H
theorem call_reprD {X : Cx} (hg : X.A.guards = some []) (hu : X.A.units + 64 < cLine) : CallR X (.builtin "repr") (rReprD X.K) := by
  intro pins s σ H xs us Q I r h
  obtain ⟨a, d, rfl, hd, h1, h2, h3, h4, q⟩ := h
  obtain ⟨u, rfl, rx⟩ := vals1 r
  obtain rfl : u = Value.ref a := rx
  obtain ⟨as, rd⟩ := Dp.reads I d _ _ hd rfl
  exact repr_of_reads' rd h1 (PyData.noDict_hsm h2) hg (by omega) (fun _ _ e => e) (fun h' u tk hk => ⟨.str d.shown, H, I.kept hk, ⟨u, rfl⟩, q⟩) h4
/-! ### dicts that hold the same objects under the same keys -/
def flatR : V → Bool
  | .ref _ => true
  | v => flatB v
theorem eqAt_sameR {A : Around} {s : Shared} {v : V} {u u' : Value} (r : RelV v u) (r' : RelV v u') (f : flatR v = true) : SeqAt.EqAt A s u u' true := by
  by_cases h : flatB v = true
  · exact eqAt_same r r' h
  · cases v with
    | ref a =>
      cases (show u = Value.ref a from r)
      cases (show u' = Value.ref a from r')
      exact SeqAt.EqAt.same _
    | _ => exact absurd f h
theorem hits_allR {A : Around} {s : Shared} {kvs : List (Key × V)} {vb : List (Key × Value)} (rb : KV kvs vb) {ks : List (Key × V)} {va : List (Key × Value)} (ra : KV ks va) : (∀ p ∈ ks, valV kvs p.1 = some p.2 ∧ flatR p.2 = true) → PySem.W.KeqHits A s vb va true := by
  unfold KV at ra
  induction ra with
  | nil => exact fun _ => .nil
  | @cons p q ps qs h t ih =>
    intro hp
    obtain ⟨k, v⟩ := q
    have hk : p.1 = k := h.1
    obtain ⟨e, f⟩ := hp p List.mem_cons_self
    have rr := rb.val p.1
    rw [e] at rr
    obtain ⟨y, hy, ry⟩ := rr.some_of
    rw [hk] at hy
    show PySem.W.KeqHits A s vb ((k, v) :: qs) (true && true)
    exact .hit hy (eqAt_sameR h.2 ry f) (ih fun p' m => hp p' (List.mem_cons_of_mem _ m))
def rNeDR : R2 := fun x y H Q => ∃ a b ks ls, x = .ref a ∧ y = .ref b ∧ H a = some (.dK ks) ∧ H b = some (.dK ls) ∧ ks.length = ls.length ∧ (∀ p ∈ ks, valV ls p.1 = some p.2 ∧ flatR p.2 = true) ∧ Q (.bl false) H
theorem op_ne_dictR {X : Cx} (hu : X.A.units < cLine) : OpR X (compareOp .NotEq) rNeDR := by
  rintro pins s σ H x y v u Q I rx ry ⟨a, b, ks, ls, rfl, rfl, ea, eb, hlen, hp, q⟩
  obtain rfl : v = Value.ref a := rx
  obtain rfl : u = Value.ref b := ry
  have oa : ObjOk X.prog X.w H s.heap a (.dK ks) := I.hok a _ ea
  have ob : ObjOk X.prog X.w H s.heap b (.dK ls) := I.hok b _ eb
  obtain ⟨_, ya, va, ra, da⟩ := oa
  obtain ⟨_, yb, vb, rb, db⟩ := ob
  have hl : va.length = vb.length := ra.length.symm.trans (hlen.trans rb.length)
  exact PySem.W.keq_ne (knd := mixKind X.prog X.w) (r := true) ya yb da db hu (fun _ => hits_allR rb ra hp) (fin_bl I q (by simp [hl]))
end
/-! ### the law's call from outside: nothing is being shown there -/
section
variable {P : Program} {w : World} {K : PySem.W.Frag} {mg mb : Str → Option Value} {k : Nat} {a : Addr} {x : Str} {sp : Sp} {s₁ : Shared} {vs : List Value} {ns : List Int}
/-- from an abstract heap that knows the script alone, or nothing -/
theorem law_core (KX : K.In s₁.heap) (hns : s₁.heap.Ns mainGlobals mg) (hb : s₁.heap.Ns builtinsNs mb) (hbb : ∀ x : Str, x ≠ "__name__" → mb x = bootBuiltins x) (hlim : s₁.heap.NoLimit) (hg : s₁.gens = #[])
    (ha : s₁.heap.get? a = some { cls := .type "list", data := .seq vs.toArray }) (hr : Room k callerA) (G : ∀ base : Heap, Mod K mg base → CalG P w K mg base k "law" [x] sp) (H : Hp) (hO : Only H) (hok : HOk P w H s₁.heap) (hA : ∀ b, H b ≠ none → b = a) (hK : H a ≠ none → K.lookup a = none)
    (hsp : sp [.ref a] H (fun v _ => v = .bl true) E0) :
    codeAny (model P w) callerA (.call (.ref (He.ga K "law")) ⟨[.ref a], []⟩) (fun r s' => r = .ok (.ret (.bool true)) ∧ OldK s₁.heap s'.heap ∧ s'.os = s₁.os ∧ AllBare s'.gens) s₁ := by
  have under : ∀ {b : Addr} {m : Str → Option Value}, s₁.heap.Ns b m → (hidT s₁.heap H).Ns b m := by
    rintro b m ⟨o, es, ep, e, d, r⟩
    refine ⟨o, es, ep, hidT_get e ?_, d, r⟩
    cases q : H b with
    | none => rfl
    | some u =>
      obtain rfl : b = a := hA b (by rw [q]; exact Option.some_ne_none u)
      rw [ha] at e
      cases e
      cases d
  have kin : K.In (hidT s₁.heap H) := by
    intro b o e
    refine hidT_get (KX b o e) ?_
    cases q : H b with
    | none => rfl
    | some u =>
      obtain rfl : b = a := hA b (by rw [q]; exact Option.some_ne_none u)
      rw [hK (by rw [q]; exact Option.some_ne_none u)] at e
      cases e
  obtain ⟨mc, l1, l2⟩ := hlim
  have M : Mod K mg (hidT s₁.heap H) := ⟨kin, under hns, ⟨mb, under hb, hbb⟩, ⟨mc, under l1, l2⟩⟩
  have e0 : Env0 P w K mg (hidT s₁.heap H) callerA [] s₁ H := ⟨rfl, M, fun b o e => of_hidT e, Nat.le_of_eq (hidT_size _ _), trivial, (fun b z => by cases z), hok, .of_eq hg⟩
  refine codeAny_mono ((G _ M).run callerA [] s₁ H [.ref a] [.ref a] _ rfl hr e0 (.cons rfl .nil) hsp) fun r s' h => ?_
  cases r with
  | error e => exact False.elim h
  | ok fl =>
    cases fl with
    | next => exact False.elim h
    | brk => exact False.elim h
    | cont => exact False.elim h
    | ret u =>
      obtain ⟨v, H', os, bare, un, hok', r', q⟩ := h
      cases (show v = .bl true from q)
      cases (show u = Value.bool true from r')
      refine ⟨rfl, OldK.of_keep ?_, os, bare⟩
      intro b o e
      rcases hO b with z | ⟨ob, xs, z⟩
      · exact un.keep b o e z (by intro y; cases y) (by simp)
      · have e2 := (hok' b _ (un.frzs b ob _ z)).1
        have e1 := (hok b _ z).1
        rw [e] at e1
        cases e1
        exact e2
theorem law_callG (KX : K.In s₁.heap) (hns : s₁.heap.Ns mainGlobals mg) (hb : s₁.heap.Ns builtinsNs mb) (hbb : ∀ x : Str, x ≠ "__name__" → mb x = bootBuiltins x) (hlim : s₁.heap.NoLimit) (hg : s₁.gens = #[])
    (ha : s₁.heap.get? a = some { cls := .type "list", data := .seq vs.toArray }) (hi : IntsAre vs ns) (hl : ns.length ≤ sizeLine) (hr : Room k callerA) (G : ∀ base : Heap, Mod K mg base → CalG P w K mg base k "law" [x] sp)
    (hsp : ∀ H : Hp, Only H → SqL K H a (ns.map V.int) → sp [.ref a] H (fun v _ => v = .bl true) E0) :
    codeAny (model P w) callerA (.call (.ref (He.ga K "law")) ⟨[.ref a], []⟩) (fun r s' => r = .ok (.ret (.bool true)) ∧ OldK s₁.heap s'.heap ∧ s'.os = s₁.os ∧ AllBare s'.gens) s₁ := by
  have rv := vals_ints hi
  have hn := hi.length
  cases hk : K.lookup a with
  | some o =>
    have e := KX a o hk
    rw [ha] at e
    cases e
    refine law_core KX hns hb hbb hlim hg ha hr G (fun _ => none) (fun _ => .inl rfl) (fun b u z => by cases z) (fun b z => absurd rfl z) (fun z => absurd rfl z) (hsp _ (fun _ => .inl rfl) (.inr ⟨_, vs.toArray, _, hk, rfl, rfl, rfl, ?_, by simpa using rv⟩))
    rw [List.size_toArray, hn]
    exact hl
  | none =>
    have on : ∀ b : Addr, b = a ∨ b ≠ a := fun b => Decidable.em _
    have oH : Only (fun b => if b = a then some (.frz { cls := .type "list", data := .seq vs.toArray } (.lst (ns.map V.int))) else none) := by
      intro b
      rcases on b with h | h
      · exact .inr ⟨_, _, if_pos h⟩
      · exact .inl (if_neg h)
    refine law_core KX hns hb hbb hlim hg ha hr G _ oH (fun b u z => ?_) (fun b z => ?_) (fun _ => hk) (hsp _ oH (.inl (.inr ⟨{ cls := .type "list", data := .seq vs.toArray }, if_pos rfl⟩)))
    · rcases on b with h | h
      · rw [if_pos h] at z
        cases z
        subst h
        exact ⟨ha, by rw [List.length_map]; exact hl, vs, _, rv, ha⟩
      · rw [if_neg h] at z
        cases z
    · rcases on b with h | h
      · exact h
      · exact absurd (if_neg h) z
end
/-- a law's end -/
theorem walkG {l : PySem.W.OpenLaw} {n k : Nat} {q : Program} {loose : List Str} {XP : (Str → Option Value) → Heap → Prop} {YP : World → Heap → Prop} {d : DefRec} {x : Str}
    (hn : l.most = some n) (hn2 : n ≤ sizeLine) (hdf : d.params.defaults = []) (hr : Room k callerA)
    (F : ∀ (w : World) (mg : Str → Option Value) (fa : Addr) (h : Heap), YP w h → h.Ns mainGlobals mg → mg d.name = some (.ref fa) →
      ∃ (K : PySem.W.Frag) (sp : Sp), K.In h ∧ fa = He.ga K "law" ∧ (∀ (H : Hp) (a : Addr) (ns : List Int), ns.length ≤ n → Only H → SqL K H a (ns.map V.int) → sp [.ref a] H (fun v _ => v = .bl true) E0) ∧
        ∀ base : Heap, Mod K mg base → CalG l.prog w K mg base k "law" [x] sp) :
    PySem.W.WalkO q loose XP YP l.row.toRowW d [] (fun f vs => PySem.call f vs) := by
  refine Att.attach_call hn hdf fun w s₀ s₁ mg mb fa o pm cd doc a vs ns Gr Y ho hd hcd hmg hobj hints hlen hg => ?_
  obtain ⟨K, sp, KX, rfl, hsp, hF⟩ := F w mg fa _ Y Gr.T.g hmg
  exact law_callG KX Gr.T.g Gr.T.b Gr.T.builtins Gr.T.nolimit hg hobj hints (Nat.le_trans hlen hn2) hr hF fun H hO hS => hsp H a ns hlen hO hS
end FK

/-! Forkhaul k08: refused files, the mathematics. -/
namespace FK
open PySem PySem.Spec PyProof.Rows L2 TL
open PySem.W (Frag)
theorem alph4_nosl : ∀ s ∈ alph4, NoSl s := fun s hs => alph7_nosl s (alph4_7 s hs)
theorem zz_eq : ("/zz" : Str) = ("/" : Str) ++ ("zz" : Str) := by decide +kernel
theorem jn_zz {sg : List Str} (h : sg ≠ []) : jn sg ++ ("/zz" : Str) = jn (sg ++ [("zz" : Str)]) := by
  rw [jn_app (by simp), ← jn_slash h, zz_eq, ← str_append_assoc, jn_one]
theorem above_snoc {sg : List Str} (h1 : sg ≠ []) (h2 : ∀ s ∈ sg, NoSl s) {x : Str} (hx : NoSl x) : jn sg ∈ aboveS (jn (sg ++ [x])) := by
  have e : Txt.split (jn (sg ++ [x])) "/" = sg ++ [x] := split_jn (by simp) (fun s hs => by
    rcases List.mem_append.mp hs with h | h
    · exact h2 s h
    · rw [List.mem_singleton.mp h]; exact hx)
  unfold aboveS
  rw [e]
  refine List.mem_map.mpr ⟨sg.length - 1, ?_, ?_⟩
  · have : 0 < sg.length := List.length_pos_iff.mpr h1
    rw [List.mem_range, List.length_append]
    show sg.length - 1 < sg.length + 1 - 1
    omega
  · have : 0 < sg.length := List.length_pos_iff.mpr h1
    rw [show sg.length - 1 + 1 = sg.length by omega, List.take_left]
    rfl
def alph9 : List Str := ["a9", "b9", "c9", "d.x9"]
theorem alph9_of : ∀ s ∈ alph4, s ++ ("9" : Str) ∈ alph9 := by decide +kernel
theorem alph9_7 : ∀ s ∈ alph9, s ∉ alph7 := by decide +kernel
theorem alph9_seg : ∀ s ∈ alph9, isSegS s = true := by decide +kernel
theorem alph9_nosl : ∀ s ∈ alph9, NoSl s := by
  have : ∀ s ∈ alph9, (47 ∉ s.cps.toList) := by decide +kernel
  exact this
theorem alph4_seg : ∀ s ∈ alph4, isSegS s = true := fun s hs => alph7_seg s (alph4_7 s hs)
/-- a drawn path with 9 behind it: its last segment is none of the files' -/
theorem odd_key {sg : List Str} (h1 : sg ≠ []) (h3 : ∀ s ∈ sg, s ∈ alph4) : ∃ p l, sg = p ++ [l] ∧ jn sg ++ ("9" : Str) = jn (p ++ [l ++ ("9" : Str)]) ∧ (∀ s ∈ p, s ∈ alph4) ∧ l ∈ alph4 := by
  obtain ⟨p, l, rfl⟩ : ∃ p l, sg = p ++ [l] := ⟨sg.dropLast, sg.getLast h1, (List.dropLast_concat_getLast h1).symm⟩
  refine ⟨p, l, rfl, ?_, fun s hs => h3 s (List.mem_append_left _ hs), h3 l (List.mem_append_right _ List.mem_cons_self)⟩
  rw [jn_app (by simp), jn_app (by simp), jn_one, jn_one, str_append_assoc]
theorem odd_path {p : List Str} {q : Str} (hp : ∀ s ∈ p, s ∈ alph4) (hq : q ∈ alph9) (hl : p.length ≤ 2) : isPathS (jn (p ++ [q])) = true ∧ (jn (p ++ [q])).length ≤ 4000 ∧ txOk (jn (p ++ [q])) = true := by
  have hs : ∀ s ∈ p ++ [q], isSegS s = true := fun s h => by
    rcases List.mem_append.mp h with h | h
    · exact alph4_seg s (hp s h)
    · rw [List.mem_singleton.mp h]; exact alph9_seg q hq
  have hn : ∀ s ∈ p ++ [q], NoSl s := fun s h => by
    rcases List.mem_append.mp h with h | h
    · exact alph4_nosl s (hp s h)
    · rw [List.mem_singleton.mp h]; exact alph9_nosl q hq
  refine ⟨?_, ?_, txOk_jn _ fun s h => txOk_seg (hs s h)⟩
  · unfold isPathS
    rw [split_jn (by simp) hn, Bool.and_eq_true]
    refine ⟨decide_eq_true ?_, List.all_eq_true.mpr hs⟩
    rw [List.length_append]
    show p.length + 1 ≤ 6
    omega
  · have := jn_len (b := 12) (p ++ [q]) fun s h => segLen (hs s h)
    rw [List.length_append] at this
    have : (jn (p ++ [q])).length ≤ 13 * (p.length + 1) := this
    omega
section
variable {fs : Fls} {p : List Str} {q : Str}
theorem odd_notin (hfs : LFiles alph7 5 fs) (hp : ∀ s ∈ p, s ∈ alph4) (hq : q ∈ alph9) : jn (p ++ [q]) ∉ fs.map (·.1) := by
  intro h
  obtain ⟨f, hf, e⟩ := List.mem_map.mp h
  obtain ⟨sg, e1, g1, g2, g3⟩ := hfs.seg f hf
  have e2 : sg = p ++ [q] := jn_inj g1 (by simp) (fun s hs => alph7_nosl s (g3 s hs)) (fun s hs => by
    rcases List.mem_append.mp hs with h | h
    · exact alph4_nosl s (hp s h)
    · rw [List.mem_singleton.mp h]; exact alph9_nosl q hq) (by rw [← e1, e])
  exact alph9_7 q hq (g3 q (by rw [e2]; simp))
/-- the drawn path with 9 behind it lies above and below no file -/
theorem odd_clash (hfs : LFiles alph7 5 fs) (hc : ¬ Clash (fs.map (·.1))) {l : Str} (hl : l ∈ alph4) (hp : ∀ s ∈ p, s ∈ alph4) (hq : q ∈ alph9) (hn : ∀ f ∈ fs, Txt.startswith (jn (p ++ [l])) (f.1 ++ ("/" : Str)) = false) :
    ¬ Clash (fs.map (·.1) ++ [jn (p ++ [q])]) := by
  have hnp : ∀ s ∈ p ++ [q], NoSl s := fun s h => by
    rcases List.mem_append.mp h with h | h
    · exact alph4_nosl s (hp s h)
    · rw [List.mem_singleton.mp h]; exact alph9_nosl q hq
  rintro ⟨z, hz, f, hf, hm⟩
  rcases List.mem_append.mp hz with hz | hz
  · obtain ⟨g, hg, rfl⟩ := List.mem_map.mp hz
    obtain ⟨sg, e1, g1, g2, g3⟩ := hfs.seg g hg
    have hf0 := hf
    rw [e1] at hf0
    rcases List.mem_append.mp hm with hm | hm
    · exact hc ⟨g.1, hz, f, hf, hm⟩
    · obtain ⟨a, r, ha, hr, e2, e3⟩ := above_jn g1 (fun s hs => alph7_nosl s (g3 s hs)) hf0
      have hm := List.mem_singleton.mp hm
      have e4 : a = p ++ [q] := jn_inj ha (by simp) (fun s hs => alph7_nosl s (g3 s (by rw [e2]; exact List.mem_append_left _ hs))) hnp (by rw [← e3, hm])
      exact alph9_7 q hq (g3 q (by rw [e2, e4]; simp))
  · rw [List.mem_singleton.mp hz] at hf
    obtain ⟨a, r, ha, hr, e2, e3⟩ := above_jn (by simp) hnp hf
    have hpre : ∃ r', r' ≠ [] ∧ p ++ [l] = a ++ r' := by
      obtain ⟨r0, x, rfl⟩ : ∃ r0 x, r = r0 ++ [x] := ⟨r.dropLast, r.getLast hr, (List.dropLast_concat_getLast hr).symm⟩
      rw [← List.append_assoc] at e2
      obtain ⟨e5, _⟩ := List.append_inj' e2 rfl
      exact ⟨r0 ++ [l], by simp, by rw [e5, List.append_assoc]⟩
    have hna : ∀ s ∈ a, NoSl s := fun s hs => hnp s (by rw [e2]; exact List.mem_append_left _ hs)
    rcases List.mem_append.mp hm with hm | hm
    · obtain ⟨g, hg, e⟩ := List.mem_map.mp hm
      have := hn g hg
      rw [e, e3, jn_slash ha] at this
      have h2 := (fr_front (p := a) (l := p ++ [l]) (by simp) hna (fun s h => by
        rcases List.mem_append.mp h with h | h
        · exact alph4_nosl s (hp s h)
        · rw [List.mem_singleton.mp h]; exact alph4_nosl l hl)).mpr hpre
      rw [this] at h2
      cases h2
    · have hm := List.mem_singleton.mp hm
      have e4 : a = p ++ [q] := jn_inj ha (by simp) hna hnp (by rw [← e3, hm])
      rw [e4] at e2
      exact hr (List.append_right_eq_self.mp e2.symm)
end
/-! ### thirty-one files -/
def z16 : Str := ⟨(List.replicate 16 #[48]).foldl (· ++ ·) #[]⟩
def wideN : List Str := (List.range 31).map fun k => ("n" : Str) ++ Str.ofString (toString ((k : Nat) : Int))
def wideF : Fls := wideN.map fun z => (z, (("file" : Str), z16))
def wideS : List Str := ["n0", "n1", "n10", "n11", "n12", "n13", "n14", "n15", "n16", "n17", "n18", "n19", "n2", "n20", "n21", "n22", "n23", "n24", "n25", "n26", "n27", "n28", "n29", "n3", "n30", "n4", "n5", "n6", "n7", "n8", "n9"]
theorem wide_srt : srt (wideF.map (·.1)) = wideS := by
  refine (srt_unique (ys := wideS) ?_ (by decide +kernel)).symm
  exact List.isPerm_iff.mp (by decide +kernel)
theorem wide_rows : rowsOf wideF = wideS.map fun z => ([z], (("file" : Str), z16)) := by
  unfold rowsOf
  rw [wide_srt]
  decide +kernel
theorem wide_base : RBase (rowsOf wideF) ∧ dirs (rowsOf wideF) = [] ∧ 30 < (files (rowsOf wideF)).length := by
  rw [wide_rows]
  refine ⟨⟨by decide +kernel, by decide +kernel, by decide +kernel, by decide +kernel⟩, by decide +kernel, by decide +kernel⟩
theorem wide_ok : FilesOk wideF := by
  refine ⟨by decide +kernel, by decide +kernel, by decide +kernel, by decide +kernel, ?_⟩
  unfold Clash
  decide +kernel
end FK

/-! Forkhaul k08: _law_refused_right. -/
namespace FK
open PySem PySem.Spec PyProof.Rows L2 TL
open PySem.W (Frag)
/-- a dict that check_files refuses for its paths -/
def BadD (K : Frag) (H : Hp) (d : Addr) : Prop := (∃ kvs os, ChkA K H d kvs os ∧ ¬ pathsOk kvs) ∨ ∃ ks os, H d = some (RawO d ks) ∧ ks.length ≤ 100 ∧ Paired (KeyC H) ks os ∧ (os.all fun o => o.elim false isPathS) = false
theorem ChkA.same {K : Frag} {H H' : Hp} {d : Addr} {kvs : List (Key × V)} {os : List (Option (Str × Str))} (h : ChkA K H d kvs os) (s : Same H H') : ChkA K H' d kvs os :=
  ⟨s _ _ h.at_, h.len, h.short, L2.Paired.mapP h.vals fun _ _ q => q.same s⟩
theorem BadD.same {K : Frag} {H H' : Hp} {d : Addr} (h : BadD K H d) (s : Same H H') : BadD K H' d := by
  rcases h with ⟨kvs, os, h, n⟩ | ⟨ks, os, h1, h2, h3, h4⟩
  · exact .inl ⟨kvs, os, h.same s, n⟩
  · exact .inr ⟨ks, os, s _ _ h1, h2, L2.Paired.mapP h3 fun _ _ q => q.same s, h4⟩
/-- put_files of such a dict -/
theorem BadD.put {K : Frag} {H : Hp} {a kd d : Addr} {ks : List (Str × Th)} {n : Nat} {Q : VK} {E : XK} (h : BadD K H d) (hst : StAt K H a kd ks) (hl : ks.length ≤ 20000) (k : ∀ H' dd, Same H H' → E (.ref (ca K "BadPath")) (some dd) H') : spPutF K n [.ref a, .ref d] H Q E := by
  refine ⟨a, kd, ks, .ref d, rfl, hst, hl, ?_⟩
  rcases h with ⟨kvs, os, h, n⟩ | ⟨ks, os, h1, h2, h3, h4⟩
  · exact .inr (.inl ⟨d, kvs, os, rfl, h, .inl n, fun _ => k, fun q => absurd q n⟩)
  · exact .inr (.inr (.inr ⟨d, ks, os, rfl, h1, h2, h3, h4, k⟩))
/-- the same with values that are pairs: it stands when the well is drawn from -/
def BadS (K : Frag) (H : Hp) (d : Addr) : Prop := (∃ kvs, ∃ ps : List (Str × Str), ChkA K H d kvs (ps.map some) ∧ ¬ pathsOk kvs) ∨ ∃ ks os, H d = some (RawO d ks) ∧ ks.length ≤ 100 ∧ Paired (KeyC H) ks os ∧ (os.all fun o => o.elim false isPathS) = false
theorem BadS.bad {K : Frag} {H : Hp} {d : Addr} (h : BadS K H d) : BadD K H d := by
  rcases h with ⟨kvs, os, h, n⟩ | h
  · exact .inl ⟨kvs, _, h, n⟩
  · exact .inr h
theorem vals_but {K : Frag} {H H' : Hp} (hm : ∀ v p, PairAt H v p → PairAt H' v p) : ∀ {kvs : List (Key × V)} {ps : List (Str × Str)}, Paired (fun (p : Key × V) o => ValC K H p.2 o) kvs (ps.map some) → Paired (fun (p : Key × V) o => ValC K H' p.2 o) kvs (ps.map some)
  | _, [], .nil => .nil
  | _ :: _, p :: ps, .cons q r => .cons ⟨hm _ _ q.1, q.2⟩ (vals_but hm r)
theorem KeyC.butO {wa : Addr} {H H' : Hp} {u : HO} (hk : H wa = some u) (hu : ∀ xs, u ≠ .tup xs) (s : But wa H H') {v : V} {o : Option Str} (h : KeyC H v o) : KeyC H' v o := by
  cases o with
  | some z => exact h
  | none =>
    rcases h with rfl | ⟨i, rfl⟩ | ⟨q, xs, rfl, h⟩
    · exact .inl rfl
    · exact .inr (.inl ⟨i, rfl⟩)
    · exact .inr (.inr ⟨q, xs, rfl, s _ _ (ne_of h hk (hu _).symm) h⟩)
theorem BadS.but {K : Frag} {H H' : Hp} {d wa : Addr} {wl : List V} (h : BadS K H d) (hw : H wa = some (.lst wl)) (b : But wa H H') : BadS K H' d := by
  rcases h with ⟨kvs, os, h, n⟩ | ⟨ks, os, h1, h2, h3, h4⟩
  · exact .inl ⟨kvs, os, ⟨b _ _ (ne_of h.at_ hw (by intro z; cases z)) h.at_, h.len, h.short, vals_but (fun v p q => q.butO hw (by intro _ z; cases z) b) h.vals⟩, n⟩
  · exact .inr ⟨ks, os, b _ _ (ne_of h1 hw (by intro z; cases z)) h1, h2, L2.Paired.mapP h3 fun _ _ q => KeyC.butO hw (by intro _ z; cases z) b q, h4⟩
theorem BadS.same {K : Frag} {H H' : Hp} {d : Addr} (h : BadS K H d) (s : Same H H') : BadS K H' d := by
  rcases h with ⟨kvs, os, h, n⟩ | ⟨ks, os, h1, h2, h3, h4⟩
  · exact .inl ⟨kvs, os, h.same s, n⟩
  · exact .inr ⟨ks, os, s _ _ h1, h2, L2.Paired.mapP h3 fun _ _ q => q.same s, h4⟩
theorem no_key {kvs : List (Key × V)} (h : (kvs.all fun p => pathK p.1) = true) {k : Key} (hk : pathK k = false) : valV kvs k = none := by
  cases c : valV kvs k with
  | none => rfl
  | some v =>
    have := valV_any (kvs := kvs) (k := k)
    rw [c] at this
    obtain ⟨p, hp, e⟩ := List.any_eq_true.mp this
    have e := of_decide_eq_true e
    have h2 := List.all_eq_true.mp h p hp
    rw [e, hk] at h2
    cases h2
theorem bad_key {K : Frag} {H : Hp} {bd T1 : Addr} {kvs : List (Key × V)} {fs : Fls} {pr : Str × Str} (hb : H bd = some (.dK kvs)) (dr : DR (PairAt H) kvs fs) (hf : FilesOk fs) (hp : PairAt H (.ref T1) pr) (hpl : pr.2.length ≤ 100000) {k : Key} (hk : pathK k = false) (hz : ∀ z, k = .inr z → z.length ≤ 4000 ∧ txOk z = true) :
    putK kvs k (.ref T1) = kvs ++ [(k, .ref T1)] ∧ BadS K (upd H bd (.dK (kvs ++ [(k, .ref T1)]))) bd := by
  obtain ⟨c1, c2, c3⟩ := hf.chk (K := K) hb dr
  refine ⟨putK_new _ (no_key c2.1 hk), .inl ⟨_, fs.map (·.2) ++ [pr], ⟨upd_same, ?_, fun p hm z e => ?_, ?_⟩, fun q => ?_⟩⟩
  · rw [List.length_append, dr.len]
    have := hf.len
    show _ + 1 ≤ 100
    omega
  · rcases List.mem_append.mp hm with hm | hm
    · exact c1.short p hm z e
    · rw [List.mem_singleton.mp hm] at e
      exact hz z e
  · rw [List.map_append]
    refine paired_snoc (a := ((k, .ref T1) : Key × V)) (b := some pr) (F := fun (p : Key × V) o => ValC K (upd H bd (.dK (kvs ++ [(k, .ref T1)]))) p.2 o) ⟨PairAt.mut (u := .dK kvs) hp hb (by intro _ z; cases z), hpl⟩ ?_
    have := vals_but (K := K) (H' := upd H bd (.dK (kvs ++ [(k, .ref T1)]))) (ps := fs.map (·.2)) (fun v p q => PairAt.mut (u := .dK kvs) q hb (by intro _ z; cases z)) (by rw [List.map_map]; exact c1.vals)
    exact this
  · have h1 := q.1
    rw [List.all_append, Bool.and_eq_true] at h1
    have h2 := h1.2
    simp [hk] at h2
theorem bad_raw {K : Frag} {H : Hp} {bd : Addr} {kvs : List (Key × V)} {fs : Fls} (hb : H bd = some (.dK kvs)) (dr : DR (PairAt H) kvs fs) (hf : FilesOk fs) {v : V} (hv : KeyC H v none) : BadS K (upd H bd (RawO bd (kvs.map (fun kv => kV kv.1) ++ [v]))) bd := by
  refine .inr ⟨_, fs.map (fun f => some f.1) ++ [none], upd_same, ?_, ?_, ?_⟩
  · rw [List.length_append, List.length_map, dr.len]
    have := hf.len
    show _ + 1 ≤ 100
    omega
  · refine paired_snoc (KeyC.mut (u := .dK kvs) hb (by intro _ z; cases z) hv) ?_
    have hl : ∀ f ∈ fs, f.1.length ≤ 4000 := fun f hf' => (hf.path f hf').2.1
    have : ∀ {kvs : List (Key × V)} {fs : Fls}, DR (PairAt H) kvs fs → (∀ f ∈ fs, f.1.length ≤ 4000) → ∀ H' : Hp, Paired (KeyC H') (kvs.map fun kv => kV kv.1) (fs.map fun f => some f.1) := by
      intro kvs fs d hl H'
      induction d with
      | nil => exact .nil
      | cons q r ih =>
        refine .cons ⟨by show kV _ = _; rw [q.1]; rfl, hl _ List.mem_cons_self⟩ (ih fun f hf => hl f (List.mem_cons_of_mem _ hf))
    exact this dr hl _
  · rw [List.all_append]
    simp
theorem chk_dr {K : Frag} {H : Hp} {d : Addr} {kvs : List (Key × V)} {fs : Fls} (hb : H d = some (.dK kvs)) (dr : DR (PairAt H) kvs fs) (hl : fs.length ≤ 100) (hk : ∀ f ∈ fs, f.1.length ≤ 4000 ∧ txOk f.1 = true ∧ f.2.2.length ≤ 100000) :
    ChkA K H d kvs ((fs.map (·.2)).map some) ∧ kvs.map (·.1) = (fs.map (·.1)).map Sum.inr := by
  refine ⟨⟨hb, by rw [dr.len]; exact hl, fun p hp z e => ?_, ?_⟩, dr.keys⟩
  · obtain ⟨i, hi⟩ := List.getElem?_of_mem hp
    obtain ⟨f, hf, e2, _⟩ := dr.get (k := p.1) (v := p.2) hi
    rw [e] at e2
    cases e2
    have := hk f (List.mem_of_getElem? hf)
    exact ⟨this.1, this.2.1⟩
  · have go : ∀ {kvs : List (Key × V)} {fs : Fls}, DR (PairAt H) kvs fs → (∀ f ∈ fs, f.2.2.length ≤ 100000) → Paired (fun (p : Key × V) o => ValC K H p.2 o) kvs ((fs.map (·.2)).map some) := by
      intro kvs fs d h
      induction d with
      | nil => exact .nil
      | cons q r ih => exact .cons ⟨q.2, h _ List.mem_cons_self⟩ (ih fun f hf => h f (List.mem_cons_of_mem _ hf))
    exact go dr fun f hf => (hk f hf).2.2
theorem merge_dr {H : Hp} {bkv : List (Key × V)} {fs : Fls} (hn : (fs.map (·.1)).Nodup) (d : DR (PairAt H) bkv fs) : DR (PairAt H) (mergeK [] bkv) fs := by
  have := DR.merge (k0 := []) (l0 := []) .nil d
  rw [show tabE [] fs = fs from by have := tabE_app fs [] (by rw [List.nil_append]; exact hn); simpa using this] at this
  exact this
theorem new_at {H : Hp} {p : Addr} (o : HO) (h : H p = none) : Same H (upd H p o) ∧ (upd H p o) p = some o := ⟨Same.new h, upd_same⟩
theorem len_zz : (Str.ofString "/zz").length = 3 := by decide +kernel
/-- a path and one below it -/
theorem over_bad {K : Frag} {H : Hp} {d A1 A3 : Addr} {sg : List Str} (h1 : sg ≠ []) (h2 : sg.length ≤ 3) (h3 : ∀ s ∈ sg, s ∈ alph4) {o1 : Str} (ho : o1.length ≤ 100) (hd : H d = some (.dK (mergeK [] [(.inr (jn sg), .ref A1), (.inr (jn sg ++ ("/zz" : Str)), .ref A3)])))
    (e1 : H A1 = some (.tup [.str "file", .str z16])) (e3 : H A3 = some (.tup [.str "exec", .str o1])) : BadS K H d := by
  have hnl : (jn sg).length ≤ 12 := by
    have := jn_len (b := 3) sg fun s hs => alph4_len s (h3 s hs)
    omega
  have htx : txOk (jn sg) = true := txOk_jn _ fun s hs => txOk_seg (alph4_seg s (h3 s hs))
  have htz : txOk (jn (sg ++ [("zz" : Str)])) = true := txOk_jn _ fun s hs => by
    rcases List.mem_append.mp hs with h | h
    · exact txOk_seg (alph4_seg s (h3 s h))
    · rw [List.mem_singleton.mp h]; decide +kernel
  have hne : jn sg ≠ jn sg ++ ("/zz" : Str) := fun e => by
    have := congrArg Str.length e
    rw [len_app] at this
    have h3z : ("/zz" : Str).length = 3 := len_zz
    omega
  have hnd : (([(jn sg, (("file" : Str), z16)), (jn sg ++ ("/zz" : Str), (("exec" : Str), o1))] : Fls).map (·.1)).Nodup := by
    simp only [List.map_cons, List.map_nil, List.nodup_cons, List.mem_singleton, List.not_mem_nil, not_false_iff, List.nodup_nil, and_true]
    exact hne
  have dr := merge_dr (H := H) (bkv := [(.inr (jn sg), .ref A1), (.inr (jn sg ++ ("/zz" : Str)), .ref A3)]) hnd (.cons ⟨rfl, A1, rfl, e1⟩ (.cons ⟨rfl, A3, rfl, e3⟩ .nil))
  obtain ⟨c1, c2⟩ := chk_dr (K := K) hd dr (by show 2 ≤ 100; decide) (fun f hf => by
    rcases List.mem_cons.mp hf with rfl | hf
    · exact ⟨by show (jn sg).length ≤ 4000; omega, htx, by show z16.length ≤ 100000; decide +kernel⟩
    · rw [List.mem_singleton.mp hf]
      refine ⟨?_, by show txOk (jn sg ++ ("/zz" : Str)) = true; rw [jn_zz h1]; exact htz, by show o1.length ≤ 100000; omega⟩
      show (jn sg ++ ("/zz" : Str)).length ≤ 4000
      rw [len_app]
      have h3z : ("/zz" : Str).length = 3 := len_zz
      omega)
  refine .inl ⟨_, _, c1, fun q => q.2 ?_⟩
  rw [keysZ_map c2]
  refine ⟨jn sg ++ ("/zz" : Str), by simp, jn sg, ?_, by simp⟩
  rw [jn_zz h1]
  exact above_snoc h1 (fun s hs => alph4_nosl s (h3 s hs)) (show 47 ∉ (Str.ofString "zz").cps.toList by decide +kernel)
/-- files with one more value, that is none -/
structure OddS (K : Frag) (H : Hp) (dd : Addr) (kv2 : List (Key × V)) (fs : Fls) (z : Str) (os : List (Option (Str × Str))) : Prop where
  chk : ChkA K H dd kv2 os
  keys : kv2.map (·.1) = (fs.map (·.1) ++ [z]).map Sum.inr
  bad : valsOk os = false
theorem OddS.same {K : Frag} {H H' : Hp} {dd : Addr} {kv2 : List (Key × V)} {fs : Fls} {z : Str} {os : List (Option (Str × Str))} (h : OddS K H dd kv2 fs z os) (s : Same H H') : OddS K H' dd kv2 fs z os := ⟨h.chk.same s, h.keys, h.bad⟩
theorem odd_chk {K : Frag} {H : Hp} {dd : Addr} {kvs : List (Key × V)} {fs : Fls} {z : Str} {x : V} {o : Option (Str × Str)} (hb : H dd = some (.dK kvs)) (dr : DR (PairAt H) kvs fs) (hf : FilesOk fs) (hz : z ∉ fs.map (·.1)) (hzl : z.length ≤ 4000) (hzt : txOk z = true)
    (hv : ValC K H x o) (ho : o.elim false valueOk = false) : OddS K (upd H dd (.dK (putK kvs (.inr z) x))) dd (putK kvs (.inr z) x) fs z ((fs.map fun f => some f.2) ++ [o]) := by
  obtain ⟨c1, c2, c3⟩ := hf.chk (K := K) hb dr
  have hk : putK kvs (.inr z) x = kvs ++ [(.inr z, x)] := putK_new _ (dr.val_none (valS_none.mpr hz))
  rw [hk]
  refine ⟨⟨upd_same, ?_, fun p hm y e => ?_, ?_⟩, ?_, ?_⟩
  · rw [List.length_append, dr.len]
    have := hf.len
    show _ + 1 ≤ 100
    omega
  · rcases List.mem_append.mp hm with hm | hm
    · exact c1.short p hm y e
    · rw [List.mem_singleton.mp hm] at e
      cases e
      exact ⟨hzl, hzt⟩
  · refine paired_snoc (a := ((.inr z, x) : Key × V)) (b := o) (F := fun (p : Key × V) o => ValC K (upd H dd (.dK (kvs ++ [(.inr z, x)]))) p.2 o) (ValC.mut hb (by intro _ q; cases q) (by intro _ q; cases q) hv) ?_
    exact L2.Paired.mapP c1.vals fun _ _ q => ValC.mut hb (by intro _ q; cases q) (by intro _ q; cases q) q
  · rw [List.map_append, List.map_append, dr.keys]
    rfl
  · show List.all _ _ = false
    rw [List.all_append]
    simp [ho]
theorem OddS.put {K : Frag} {H : Hp} {a kd dd : Addr} {ks : List (Str × Th)} {kv2 : List (Key × V)} {fs : Fls} {z : Str} {os : List (Option (Str × Str))} {n : Nat} {Q : VK} {E : XK} (h : OddS K H dd kv2 fs z os) (hst : StAt K H a kd ks) (hl : ks.length ≤ 20000)
    (k1 : ¬ pathsOk kv2 → ∀ H' d, Same H H' → E (.ref (ca K "BadPath")) (some d) H') (k2 : ∀ H' d, Same H H' → E (.ref (ca K "BadName")) (some d) H') : spPutF K n [.ref a, .ref dd] H Q E :=
  ⟨a, kd, ks, .ref dd, rfl, hst, hl, .inr (.inl ⟨dd, kv2, os, rfl, h.chk, .inr h.bad, k1, fun _ => k2⟩)⟩
theorem ThAt.butL {K : Frag} {wa : Addr} {wl : List V} {H H' : Hp} {a : Addr} (hk : H wa = some (.lst wl)) (s : But wa H H') : ∀ {t : Th}, ThAt K H a t → ThAt K H' a t
  | .blob, ⟨dx, h⟩ => ⟨dx, s _ _ (ne_of h hk (by intro z; cases z)) h⟩
  | .tree es, ⟨dx, t, rs, h1, h2, h3⟩ => ⟨dx, t, rs, s _ _ (ne_of h1 hk (by intro z; cases z)) h1, s _ _ (ne_of h2 hk (by intro z; cases z)) h2, L2.Paired.mapP h3 fun _ _ ⟨q, e1, e2⟩ => ⟨q, e1, s _ _ (ne_of e2 hk (by intro z; cases z)) e2⟩⟩
theorem StAt.butL {K : Frag} {wa : Addr} {wl : List V} {H H' : Hp} {a kd : Addr} {ks : List (Str × Th)} (hk : H wa = some (.lst wl)) (s : But wa H H') (h : StAt K H a kd ks) : StAt K H' a kd ks := by
  obtain ⟨dx, kvs, h1, h2, h3⟩ := h
  exact ⟨dx, kvs, s _ _ (ne_of h1 hk (by intro z; cases z)) h1, s _ _ (ne_of h2 hk (by intro z; cases z)) h2, h3.imp fun v t ⟨b, e, q⟩ => ⟨b, e, ThAt.butL hk s q⟩⟩
theorem both_bad {K : Frag} {H : Hp} {bb T : Addr} {kv2 : List (Key × V)} {fs : Fls} {z : Str} {os : List (Option (Str × Str))} (h : OddS K H bb kv2 fs z os) (hf : FilesOk fs) (hz : isPathS z = true) (hT : H T = some (.tup [.str "file", .str z16])) :
    BadD K (upd H bb (.dK (putK kv2 (.inr ("a/../b" : Str)) (.ref T)))) bb ∧ kv2.length ≤ 100 := by
  have hall : (kv2.all fun p => pathK p.1) = true := List.all_eq_true.mpr fun p hp => by
    have : p.1 ∈ kv2.map (·.1) := List.mem_map_of_mem hp
    rw [h.keys] at this
    obtain ⟨y, hy, e⟩ := List.mem_map.mp this
    rw [← e]
    rcases List.mem_append.mp hy with hy | hy
    · obtain ⟨f, hf', rfl⟩ := List.mem_map.mp hy
      exact (hf.path f hf').1
    · rw [List.mem_singleton.mp hy]
      exact hz
  have hlen : kv2.length = fs.length + 1 := by
    have := congrArg List.length h.keys
    simpa using this
  have hl := hf.len
  have hpk : pathK (.inr ("a/../b" : Str)) = false := by decide +kernel
  rw [putK_new _ (no_key hall hpk)]
  refine ⟨.inl ⟨_, os ++ [some (("file" : Str), z16)], ⟨upd_same, by rw [List.length_append]; show kv2.length + 1 ≤ 100; omega, fun p hm y e => ?_, ?_⟩, fun q => ?_⟩, by omega⟩
  · rcases List.mem_append.mp hm with hm | hm
    · exact h.chk.short p hm y e
    · rw [List.mem_singleton.mp hm] at e
      cases e
      exact ⟨by decide +kernel, by decide +kernel⟩
  · refine paired_snoc (a := ((.inr ("a/../b" : Str), .ref T) : Key × V)) (b := some (("file" : Str), z16)) (F := fun (p : Key × V) o => ValC K (upd H bb (.dK (kv2 ++ [(.inr ("a/../b" : Str), .ref T)]))) p.2 o) ?_ ?_
    · exact ⟨PairAt.mut (u := .dK kv2) ⟨T, rfl, hT⟩ h.chk.at_ (by intro _ z; cases z), by show z16.length ≤ 100000; decide +kernel⟩
    · exact L2.Paired.mapP h.chk.vals fun _ _ q => ValC.mut h.chk.at_ (by intro _ q; cases q) (by intro _ q; cases q) q
  · have h1 := q.1
    rw [List.all_append, Bool.and_eq_true] at h1
    have h2 := h1.2
    simp [hpk] at h2
theorem wide_get {j : Nat} (hj : j < 31) : wideF[j]? = some (("n" : Str) ++ Str.ofString (toString ((j : Nat) : Int)), (("file" : Str), z16)) := by
  unfold wideF wideN
  rw [List.getElem?_map, List.getElem?_map, List.getElem?_range hj]
  rfl
theorem wide_short : ∀ i, i < 31 → (Str.ofString (toString ((i : Nat) : Int))).length ≤ 10 := by decide +kernel
/-! what _law_put tells of them -/
section
variable {K : Frag} {H : Hp} {a kd d : Addr} {ks : List (Str × Th)} {n : Nat} {Q : VK} {E : XK}
theorem hold_told {A : Prop} (hne : ca K "BadPath" ≠ ca K "BadName") {H' : Hp} {Q : VK} {zz : Str} {cls : Value} (hc : (cls = .ref (ca K "BadPath") ∧ zz = "path") ∨ (cls = .ref (ca K "BadName") ∧ zz = "name")) (k : ∀ q, H' q = none → Q (.ref q) (upd H' q (.tup [.str zz, .non]))) :
    (cls = .ref (ca K "BadPath") → ∀ q, H' q = none → Q (.ref q) (upd H' q (.tup [.str "path", .non]))) ∧ (cls = .ref (ca K "BadName") → ∀ q, H' q = none → Q (.ref q) (upd H' q (.tup [.str "name", .non]))) ∧ (cls = .ref (ca K "BadPath") ∨ cls = .ref (ca K "BadName")) := by
  rcases hc with ⟨rfl, rfl⟩ | ⟨rfl, rfl⟩
  · exact ⟨fun _ => k, fun e => absurd (Value.ref.inj e) hne, .inl rfl⟩
  · exact ⟨fun e => absurd (Value.ref.inj e).symm hne, fun _ => k, .inr rfl⟩
theorem OddS.lput {kv2 : List (Key × V)} {fs : Fls} {z : Str} {os : List (Option (Str × Str))} (h : OddS K H d kv2 fs z os) (hst : StAt K H a kd ks) (hl : ks.length ≤ 20000) (hne : ca K "BadPath" ≠ ca K "BadName")
    (k : ∀ zz H' q, (zz = ("path" : Str) ∨ zz = ("name" : Str)) → (pathsOk kv2 → zz = "name") → Same H H' → H' q = some (.tup [.str zz, .non]) → Q (.ref q) H') : spLPut K n [.ref a, .ref d] H Q E := by
  by_cases hp : pathsOk kv2
  · exact ⟨a, .ref d, rfl, h.put hst hl (fun z => absurd hp z) fun H' dx s => hold_told (A := True) hne (.inr ⟨rfl, rfl⟩) fun q hq => k _ _ _ (.inr rfl) (fun _ => rfl) (s.new' hq) upd_same⟩
  · refine ⟨a, .ref d, rfl, a, kd, ks, .ref d, rfl, hst, hl, .inr (.inl ⟨d, kv2, os, rfl, h.chk, .inr h.bad, fun _ H' dx s => hold_told (A := True) hne (.inl ⟨rfl, rfl⟩) fun q hq => k _ _ _ (.inl rfl) (fun z => absurd z hp) (s.new' hq) upd_same, fun z => absurd z hp⟩)⟩
theorem wide_lput {wkv : List (Key × V)} {U : Th → Prop} (hst : StAt K H a kd ks) (hl : ks.length ≤ 20000) (hne : ca K "BadPath" ≠ ca K "BadName") (hd : H d = some (.dK wkv)) (dr : DR (PairAt H) wkv wideF) (hok : KsOk U ks) (hinj : Inj U)
    (k : ∀ H' q, Same H H' → H' q = some (.tup [.str "name", .non]) → Q (.ref q) H') : spLPut K n [.ref a, .ref d] H Q E :=
  ⟨a, .ref d, rfl, a, kd, ks, .ref d, rfl, hst, hl, .inl ⟨d, wideF, U, rfl, ⟨wkv, hd, dr⟩, wide_ok, hok, hinj, .inr ⟨wide_base.1, wide_base.2.1, wide_base.2.2, fun H' dx s => hold_told (A := True) hne (.inr ⟨rfl, rfl⟩) fun q hq => k _ _ (s.new' hq) upd_same⟩⟩⟩
theorem other_lput {x : V} {t : String} (hst : StAt K H a kd ks) (hl : ks.length ≤ 20000) (hne : ca K "BadPath" ≠ ca K "BadName") (ht : TyX K H x (.type t)) (hk : kitB t "dict" = some false)
    (k : ∀ H' q, Same H H' → H' q = some (.tup [.str "path", .non]) → Q (.ref q) H') : spLPut K n [.ref a, x] H Q E :=
  ⟨a, x, rfl, a, kd, ks, x, rfl, hst, hl, .inr (.inr (.inl ⟨t, ht, hk, fun H' dx s => hold_told (A := True) hne (.inl ⟨rfl, rfl⟩) fun q hq => k _ _ (s.new' hq) upd_same⟩))⟩
end
section
variable {P : Program} {w : World} {K : Frag} {mg : Str → Option Value} {base : Heap}
def spRef (K : Frag) : Sp := fun vs H Q _ => ∃ (wa a kd d : Addr) (c : Int) (ks : List (Str × Th)) (U : Th → Prop) (fs : Fls), vs = [.ref wa, .ref a, .ref d] ∧ WellAt H wa c ∧ 0 ≤ c ∧ c ≤ 800000000 ∧ StAt K H a kd ks ∧ ks.length ≤ 20000 ∧ KsOk U ks ∧ Inj U ∧ FdAt H d fs ∧ LFiles alph7 5 fs ∧ fs.length ≤ 80 ∧
  ∀ H' c', But wa H H' → WellAt H' wa c' → 0 ≤ c' → c' ≤ c + 10 → Q (.bl true) H'
abbrev nRef : List Str := ["_law_well_here", "_law_store", "_law_files_here", "_law_before", "_law_path_here", "_law_bad", "_law_over", "_law_odd", "_law_wide", "_law_both", "_law_thing", "_law_near", "_law_k", "_law_one"]
theorem scRef : FnScope nRef ["_law_well_here", "_law_store", "_law_files_here"] (defScope sRef) := ⟨rfl, rfl, rfl, by decide +kernel, rfl, by decide +kernel, by decide +kernel⟩
theorem ok_ref (F : GF K mg "_law_refused_right" sRef) (GP : Cal P w K mg base CX0 2 "_law_pick" ["_law_well_here", "_law_some"] spPick) (GS : Cal P w K mg base CX0 3 "_law_small_path" ["_law_well_here", "_law_size"] spSmall)
    (GL : Cal P w K mg base CX0 13 "_law_put" ["_law_store", "_law_files_here"] (spLPut K 4)) (GI : CalF P w K mg base CX0 1 (mAt K (ca K "Store") "ids") ["self"] (spSIds K)) (mI : Meth K (ca K "Store") "ids" (mAt K (ca K "Store") "ids")) (T : Kit K mg) (M : Exm K) :
    Cal P w K mg base CX0 14 "_law_refused_right" ["_law_well_here", "_law_store", "_law_files_here"] (spRef K) := by
  refine cal0 F scRef (fun _ _ _ _ _ _ us hl => match us, hl with | [_, _, _], _ => rfl) (fun vs H Q E h => ?_) (fun cdv A outer s H vs Q E hr h => ?_)
  · obtain ⟨wa, a, kd, d, c, ks, U, fs, rfl, _⟩ := h
    rfl
  · obtain ⟨wa, a, kd, d, c, ks, U, fs, rfl, hw, hc0, hc, hst, hkl, hok, hinj, hfd, hfs, hl, kQ⟩ := h
    have B := T.fr
    refine ⟨_, (pss_cons (ps_set (i := 3) scRef.nd rfl (Or.inl rfl) (pmeth0 (E := E0) (GI.mono (by decide : 1 ≤ 13)) (pv 1) T.cS mI hr pass0))
        (pss_cons (ps_set (i := 4) scRef.nd rfl (Or.inr rfl) (pcal (GS.mono (by decide : 3 ≤ 13)) hr (by rfl) pass0 (pa_cons (pv 0) (pa_cons pe_int pa_nil))))
        (pss_cons (ps_set (i := 5) scRef.nd rfl (Or.inl rfl) (pe_callTy call_dictD (by rfl) B.dict (by decide +kernel) (pa_cons (pv 2) pa_nil)))
        (pss_cons (ps_dputR (hu_of hr) (pv 5) (pcal (GP.mono (by decide : 2 ≤ 13)) hr (by rfl) pass0 (pa_cons (pv 0) (pa_cons (pe_lst (pa_cons pe_str (pa_cons pe_str (pa_cons pe_str (pa_cons pe_str (pa_cons pe_int (pa_cons pe_non (pa_cons (pe_tup (pa_cons pe_str pa_nil)) (pa_cons pe_str pa_nil))))))))) pa_nil))) (pe_tup (pa_cons pe_str (pa_cons (pe_op op_mulS pe_str pe_int) pa_nil))) (by rfl))
        (pss_cons (ps_set (i := 6) scRef.nd rfl (Or.inl rfl) (pe_callTy (call_dictP rfl) (by rfl) B.dict (by decide +kernel) (pa_cons (pe_lst (pa_cons (pe_tup (pa_cons (pv 4) (pa_cons (pe_tup (pa_cons pe_str (pa_cons (pe_op op_mulS pe_str pe_int) pa_nil))) pa_nil))) (pa_cons (pe_tup (pa_cons (pe_op op_add_str (pv 4) pe_str) (pa_cons (pe_tup (pa_cons pe_str (pa_cons (pe_op op_mulS pe_str pe_int) pa_nil))) pa_nil))) pa_nil))) pa_nil)))
        (pss_cons (ps_set (i := 7) scRef.nd rfl (Or.inl rfl) (pe_callTy call_dictD (by rfl) B.dict (by decide +kernel) (pa_cons (pv 2) pa_nil)))
        (pss_cons (ps_dput (hu_of hr) (pv 7) (pe_op op_add_str (pv 4) pe_str) (pcal (GP.mono (by decide : 2 ≤ 13)) hr (by rfl) pass0 (pa_cons (pv 0) (pa_cons (pe_lst (pa_cons pe_non (pa_cons (pe_tup (pa_cons pe_str (pa_cons (pe_op op_mulS pe_str pe_int) pa_nil))) (pa_cons (pe_tup (pa_cons pe_str (pa_cons pe_str pa_nil))) (pa_cons (pe_lst (pa_cons pe_str (pa_cons (pe_op op_mulS pe_str pe_int) pa_nil))) (pa_cons (pe_tup (pa_cons pe_str pa_nil)) (pa_cons pe_int pa_nil))))))) pa_nil))) (by rfl))
        (pss_cons (ps_set (i := 8) scRef.nd rfl (Or.inl rfl) (pe_callTy (call_dictP rfl) (by rfl) B.dict (by decide +kernel) (pa_cons (pe_lc (own := [("_law_k", 12)]) (g := gName 12) (tt := tYes) rfl scRef.nd (pi_range1 (by rfl) B.range (pa_cons pe_int pa_nil)) (blkOk_by (N := nRef) (sc := defScope sRef) (by decide +kernel)) (fun _ _ _ _ _ => (pg_name (i := 12) scRef.nd rfl (Or.inl rfl))) (fun _ _ _ _ _ => pts_nil) (fun _ _ _ _ _ => (pe_tup (pa_cons (pe_op op_add_str pe_str (pe_callTy call_str_int (by rfl) B.str (by decide +kernel) (pa_cons (pv 12) pa_nil))) (pa_cons (pe_tup (pa_cons pe_str (pa_cons (pe_op op_mulS pe_str pe_int) pa_nil))) pa_nil))))) pa_nil)))
        (pss_cons (ps_set (i := 9) scRef.nd rfl (Or.inl rfl) (pe_callTy call_dictD (by rfl) B.dict (by decide +kernel) (pa_cons (pv 7) pa_nil)))
        (pss_cons (ps_dput (hu_of hr) (pv 9) pe_str (pe_tup (pa_cons pe_str (pa_cons (pe_op op_mulS pe_str pe_int) pa_nil))) (by rfl))
        (pss_cons (ps_for (g := gName 10) PassesOwn.never rfl (pi_list (pe_lst (pa_cons (pv 5) (pa_cons (pv 6) (pa_cons (pv 9) pa_nil))))) (pg_name (i := 10) scRef.nd rfl (Or.inl rfl)) (pss_one (ps_if (pt_cmpR op_ne (pe_ix ix_tup (pcal GL hr (by rfl) pass0 (pa_cons (pv 1) (pa_cons (pv 10) pa_nil))) pe_int (by intro _ _; rfl)) pe_str (nomark _)) (pss_one (ps_ret pe_bl)) pss_nil)))
        (pss_cons (ps_if (PW.pt (pw_or (pt_cmpR op_notIn_seq (pe_ix ix_tup (pcal GL hr (by rfl) pass0 (pa_cons (pv 1) (pa_cons (pv 7) pa_nil))) pe_int (by intro _ _; rfl)) (pe_tup (pa_cons pe_str (pa_cons pe_str pa_nil))) rfl) (pw_or1 (pt_cmpR op_ne (pe_ix ix_tup (pcal GL hr (by rfl) pass0 (pa_cons (pv 1) (pa_cons (pv 8) pa_nil))) pe_int (by intro _ _; rfl)) pe_str (nomark _))))) (pss_one (ps_ret pe_bl)) pss_nil)
        (pss_cons (ps_if (PW.pt (pw_and (pt_cmpR (op_eqNil hr.units0) (pe_lock (pe_lc (own := [("_law_one", 13)]) (g := gName 13) rfl scRef.nd (pi_keys (pv 2)) (blkOk_by (N := nRef) (sc := defScope sRef) (by decide +kernel)) (fun _ _ _ _ _ => (pg_name (i := 13) scRef.nd rfl (Or.inl rfl))) (fun _ _ _ _ _ => (pts_one (pt_val (pe_m1 PySem.F.slot_str_startswith PySem.F.type_str_startswith mt_startswith (pv 13) (pe_op op_add_str (pv 4) pe_str))))) (fun _ _ _ _ _ => (pv 13)))) (pe_lst pa_nil) (nomark _)) (pw_and1 (pt_cmp (pc_dnotin (hu_of hr) (pv 4) (pv 2)))))) (pss_cons (ps_lock (ps_setLc (i := 11) (own := [("_law_one", 13)]) (g := gName 13) rfl scRef.nd rfl rfl (sw_true rfl rfl rfl rfl) (pi_keys (pv 2)) (blkOk_by (N := nRef) (sc := defScope sRef) (by decide +kernel)) (fun _ _ _ _ _ => (pg_name (i := 13) scRef.nd rfl (Or.inl rfl))) (fun _ _ _ _ _ => (pts_one (pt_val (pe_m1 PySem.F.slot_str_startswith PySem.F.type_str_startswith mt_startswith (pv 4) (pe_op op_add_str (pv 13) pe_str))))) (fun _ _ _ _ _ => (pv 13))))
        (pss_one (ps_if (PW.pt (pw_and (pt_cmpR (op_eqNil hr.units0) (pv 11) (pe_lst pa_nil) (nomark _)) (pw_and1 (pt_cmpR op_ne (pe_ix ix_tup (pcal GL hr (by rfl) pass0 (pa_cons (pv 1) (pa_cons (pv 7) pa_nil))) pe_int (by intro _ _; rfl)) pe_str (nomark _))))) (pss_one (ps_ret pe_bl)) pss_nil))) pss_nil)
        (pss_cons (ps_if (pt_cmpR op_ne (pe_ix ix_tup (pcal GL hr (by rfl) pass0 (pa_cons (pv 1) (pa_cons (pcal (GP.mono (by decide : 2 ≤ 13)) hr (by rfl) pass0 (pa_cons (pv 0) (pa_cons (pe_lst (pa_cons pe_non (pa_cons (pe_lst pa_nil) (pa_cons (pe_tup pa_nil) (pa_cons pe_str pa_nil))))) pa_nil))) pa_nil))) pe_int (by intro _ _; rfl)) pe_str (nomark _)) (pss_one (ps_ret pe_bl)) pss_nil)
        (pss_one (ps_ret (pe_cmpR (op_eqD hr.units) (pv 3) (pmeth0 (E := E0) (GI.mono (by decide : 1 ≤ 13)) (pv 1) T.cS mI hr pass0) (nomark _)))))))))))))))))), ?_⟩
    obtain ⟨dxS, kvS, haS, hkS, hdS⟩ := hst
    obtain ⟨kvs, hd, hdr⟩ := hfd
    obtain ⟨wl0, hwl⟩ := hw.lst
    have nda : d ≠ wa := ne_of hd hwl (by intro z; cases z)
    have naw : a ≠ wa := ne_of haS hwl (by intro z; cases z)
    have nkw : kd ≠ wa := ne_of hkS hwl (by intro z; cases z)
    refine ⟨_, rfl, a, dxS, stF kd, rfl, haS, rfl, a, kd, ks, rfl, ⟨dxS, kvS, haS, hkS, hdS⟩, by omega, fun H1 tb s1 htb => ?_⟩
    refine ⟨_, rfl, wa, c, rfl, hw.same s1, hc0, by omega, fun H2 sg b2 hw2 g1 g2 g3 => ?_⟩
    have sWT : ∀ {c o}, c ≠ wa → H c = some o → H2 c = some o := fun n q => b2 _ _ n (s1 _ _ q)
    have hd2 := sWT nda hd
    refine ⟨_, rfl, d, kvs, rfl, .inl hd2, fun bd hbd => ?_⟩
    refine ⟨48, 16, (by decide +kernel), rfl, (by decide), (by decide), ?_⟩
    refine ⟨(by show 2 ≤ sizeLine; exact line_of (by decide)), fun T1 hT1 => ?_⟩
    refine ⟨_, rfl, _, rfl, ?_⟩
    refine ⟨(by show 1 ≤ sizeLine; exact line_of (by decide)), fun T2 hT2 => ⟨(by show 8 ≤ sizeLine; exact line_of (by decide)), fun L hL => ?_⟩⟩
    have sB : Same H2 (upd H2 bd (.dK kvs)) := Same.new hbd
    have sT1 := Same.new (o := .tup [.str "file", .str ⟨(List.replicate 16 #[48]).foldl (· ++ ·) #[]⟩]) hT1
    have sT2 := Same.new (o := .tup [.str "a"]) hT2
    have sL := Same.new (o := .lst [.str "", .str ".", .str "a//b", .str "A", .int 3, .non, .ref T2, .str "a/b/c/d/e/f/g"]) hL
    have s2 := ((sB.trans sT1).trans sT2).trans sL
    have hwl2 := hw2.lst
    obtain ⟨wl2, hwl2⟩ := hwl2
    have nLw : L ≠ wa := fun z => by rw [z, (((sB.trans sT1).trans sT2) _ _ hwl2)] at hL; cases hL
    refine ⟨wa, L, c + 4, _, rfl, hw2.same s2, by omega, by omega, upd_same, nLw, (by show 0 < 8; decide), (by show 8 ≤ 1000; decide), fun H3 i y b3 hw3 hy => ?_⟩
    have hkl2 : kvs.length = fs.length := hdr.len
    have hfo : FilesOk fs := files_ok (n := 4) (by decide) hfs hl
    have nbw : bd ≠ wa := fun z => by rw [z, hwl2] at hbd; cases hbd
    have hbd3 : H3 bd = some (.dK kvs) := b3 _ _ nbw (((sT1.trans sT2).trans sL) _ _ upd_same)
    have dr2 : DR (PairAt H2) kvs fs := hdr.imp fun v p q => (q.same s1).butO (s1 _ _ hwl) (by intro _ z; cases z) b2
    have dr3 : DR (PairAt H3) kvs fs := dr2.imp fun v p q => (q.same s2).butO (s2 _ _ hwl2) (by intro _ z; cases z) b3
    have hz16 : isIdS ⟨(List.replicate 16 #[48]).foldl (· ++ ·) #[]⟩ = true := by decide +kernel
    have nT1w : T1 ≠ wa := fun z => by rw [z, sB _ _ hwl2] at hT1; cases hT1
    have nT2w : T2 ≠ wa := fun z => by rw [z, (sB.trans sT1) _ _ hwl2] at hT2; cases hT2
    have hT13 : H3 T1 = some (.tup [.str "file", .str ⟨(List.replicate 16 #[48]).foldl (· ++ ·) #[]⟩]) := b3 _ _ nT1w ((sT2.trans sL) _ _ upd_same)
    have hT23 : H3 T2 = some (.tup [.str "a"]) := b3 _ _ nT2w (sL _ _ upd_same)
    have key : ∃ H4, DPutR H3 bd y (.ref T1) H4 ∧ BadS K H4 bd ∧ ∃ u, H4 = upd H3 bd u := by
      have hstr : ∀ z : Str, y = .str z → isPathS z = false → z.length ≤ 4000 → txOk z = true → ∃ H4, DPutR H3 bd y (.ref T1) H4 ∧ BadS K H4 bd ∧ ∃ u, H4 = upd H3 bd u := by
        rintro z rfl h1 h2 h3
        obtain ⟨e, hb⟩ := bad_key (K := K) (T1 := T1) (pr := ("file", ⟨(List.replicate 16 #[48]).foldl (· ++ ·) #[]⟩)) hbd3 dr3 hfo ⟨T1, rfl, hT13⟩ (by decide +kernel) (k := .inr z) h1 (fun z' e => by cases e; exact ⟨h2, h3⟩)
        exact ⟨_, .inl (.inl ⟨kvs, .inr z, hbd3, rfl, by rw [hkl2]; exact line_lt (by omega), rfl⟩), by rw [e]; exact hb, _, rfl⟩
      have hm := List.mem_of_getElem? hy
      simp only [List.mem_cons, List.not_mem_nil, or_false] at hm
      rcases hm with rfl | rfl | rfl | rfl | rfl | rfl | rfl | rfl
      · exact hstr _ rfl (by decide +kernel) (by decide +kernel) (by decide +kernel)
      · exact hstr _ rfl (by decide +kernel) (by decide +kernel) (by decide +kernel)
      · exact hstr _ rfl (by decide +kernel) (by decide +kernel) (by decide +kernel)
      · exact hstr _ rfl (by decide +kernel) (by decide +kernel) (by decide +kernel)
      · obtain ⟨e, hb⟩ := bad_key (K := K) (T1 := T1) (pr := ("file", ⟨(List.replicate 16 #[48]).foldl (· ++ ·) #[]⟩)) hbd3 dr3 hfo ⟨T1, rfl, hT13⟩ (by decide +kernel) (k := .inl 3) rfl (fun z' e => by cases e)
        exact ⟨_, .inl (.inl ⟨kvs, .inl 3, hbd3, rfl, by rw [hkl2]; exact line_lt (by omega), rfl⟩), by rw [e]; exact hb, _, rfl⟩
      · exact ⟨_, .inr (.inl ⟨kvs, hbd3, rfl, rfl⟩), bad_raw (v := .non) hbd3 dr3 hfo (.inl rfl), ⟨_, rfl⟩⟩
      · exact ⟨_, .inr (.inr ⟨kvs, T2, [.inr "a"], hbd3, fun kv hkv => by
          obtain ⟨j, hj⟩ := List.getElem?_of_mem hkv
          obtain ⟨f, _, e, _⟩ := dr3.get (k := kv.1) (v := kv.2) hj
          exact ⟨_, e⟩, rfl, hT23, rfl⟩), bad_raw (v := .ref T2) hbd3 dr3 hfo (.inr (.inr ⟨T2, _, rfl, hT23⟩)), ⟨_, rfl⟩⟩
      · exact hstr _ rfl (by decide +kernel) (by decide +kernel) (by decide +kernel)
    obtain ⟨H4, hput, hbad4, u4, hu4⟩ := key
    refine ⟨bd, H4, rfl, hput, ?_⟩
    have hbd1 : H1 bd = none := by
      cases e : H1 bd with
      | none => rfl
      | some o => have := b2 _ _ nbw e; rw [hbd] at this; cases this
    have b14 : But wa H1 H4 := fun x o n q => by
      rw [hu4, upd_ne (ne_of_none q hbd1)]
      exact b3 _ _ n (s2 _ _ (b2 _ _ n q))
    have hw4 : WellAt H4 wa (c + 5) := by
      rw [hu4, show c + 5 = c + 4 + 1 by omega]
      exact hw3.upd nbw
    clear hput hu4 u4 hT13 hT23 hbd3 dr3 hw3 hy b3 H3 y
    have hwl1 : H1 wa = some (.lst wl0) := s1 _ _ hwl
    have hd4 : H4 d = some (.dK kvs) := b14 _ _ nda (s1 _ _ hd)
    have dr4 : DR (PairAt H4) kvs fs := hdr.imp fun v p q => (q.same s1).butO hwl1 (by intro _ z; cases z) b14
    have htb4 : H4 tb = some (.tup ((srt (ks.map (·.1))).map V.str)) := b14 _ _ (ne_of htb hwl1 (by intro z; cases z)) htb
    have hsgl : (jn sg).length ≤ 12 := by
      have := jn_len (b := 3) sg fun s hs => alph4_len s (g3 s hs)
      omega
    -- over
    have h3z : (Str.ofString "/zz").length = 3 := by decide +kernel
    refine ⟨_, rfl, 48, 16, (by decide +kernel), rfl, (by decide), (by decide), ⟨(by show 2 ≤ sizeLine; exact line_of (by decide)), fun A1 hA1 => ⟨(by show 2 ≤ sizeLine; exact line_of (by decide)), fun A2 hA2 => ?_⟩⟩⟩
    refine ⟨_, rfl, _, _, rfl, rfl, line_of (by rw [h3z]; omega), 49, 16, (by decide +kernel), rfl, (by decide), (by decide), ⟨(by show 2 ≤ sizeLine; exact line_of (by decide)), fun A3 hA3 => ⟨(by show 2 ≤ sizeLine; exact line_of (by decide)), fun A4 hA4 => ⟨(by show 2 ≤ sizeLine; exact line_of (by decide)), fun LO hLO => ?_⟩⟩⟩⟩
    obtain ⟨sA1, eA1⟩ := new_at (.tup [.str "file", .str z16]) hA1
    obtain ⟨sA2, eA2⟩ := new_at (.tup [.str (jn sg), .ref A1]) hA2
    obtain ⟨sA3, eA3⟩ := new_at (.tup [.str "exec", .str ⟨(List.replicate 16 #[49]).foldl (· ++ ·) #[]⟩]) hA3
    obtain ⟨sA4, eA4⟩ := new_at (.tup [.str (jn sg ++ Str.ofString "/zz"), .ref A3]) hA4
    obtain ⟨sLO, eLO⟩ := new_at (.lst [.ref A2, .ref A4]) hLO
    refine ⟨LO, [A2, A4], [(.inr (jn sg), .ref A1), (.inr (jn sg ++ Str.ofString "/zz"), .ref A3)], rfl, SqL.of eLO, .cons (SqT.of (sLO _ _ (sA4 _ _ (sA3 _ _ eA2)))) (.cons (SqT.of (sLO _ _ eA4)) .nil), fun od hod => ?_⟩
    obtain ⟨sod, eod⟩ := new_at (.dK (mergeK [] [(.inr (jn sg), .ref A1), (.inr (jn sg ++ Str.ofString "/zz"), .ref A3)])) hod
    have hbad5 := over_bad (K := K) g1 g2 g3 (by decide +kernel) eod (sod _ _ (sLO _ _ (sA4 _ _ (sA3 _ _ (sA2 _ _ eA1))))) (sod _ _ (sLO _ _ (sA4 _ _ eA3)))
    have s45 := sA1.trans (sA2.trans (sA3.trans (sA4.trans (sLO.trans sod))))
    have hb5 := hbad4.same s45
    have hw5 := hw4.same s45
    have hd5 := s45 _ _ hd4
    have dr5 : DR (PairAt _) kvs fs := dr4.imp fun v p q => q.same s45
    have htb5 := s45 _ _ htb4
    clear hod eod sod hLO sLO eLO hA4 sA4 eA4 hA3 sA3 eA3 hA2 sA2 eA2 hA1 sA1 eA1
    generalize upd _ od _ = H5 at *
    have b15 : But wa H1 H5 := fun x o n q => s45 _ _ (b14 _ _ n q)
    -- odd
    refine ⟨_, rfl, d, kvs, rfl, .inl hd5, fun dd hdd => ?_⟩
    obtain ⟨sdd, edd⟩ := new_at (.dK kvs) hdd
    refine ⟨_, rfl, 48, 16, (by decide +kernel), rfl, (by decide), (by decide), ⟨(by show 2 ≤ sizeLine; exact line_of (by decide)), fun B1 hB1 => ⟨(by show 2 ≤ sizeLine; exact line_of (by decide)), fun B2 hB2 => ?_⟩⟩⟩
    refine ⟨48, 16, (by decide +kernel), rfl, (by decide), (by decide), ⟨(by show 2 ≤ sizeLine; exact line_of (by decide)), fun B3 hB3 => ⟨(by show 1 ≤ sizeLine; exact line_of (by decide)), fun B4 hB4 => ⟨(by show 6 ≤ sizeLine; exact line_of (by decide)), fun B5 hB5 => ?_⟩⟩⟩⟩
    obtain ⟨sB1, eB1⟩ := new_at (.tup [.str "dir", .str z16]) hB1
    obtain ⟨sB2, eB2⟩ := new_at (.tup [.str "file", .str "0"]) hB2
    obtain ⟨sB3, eB3⟩ := new_at (.lst [.str "file", .str z16]) hB3
    obtain ⟨sB4, eB4⟩ := new_at (.tup [.str "file"]) hB4
    obtain ⟨sB5, eB5⟩ := new_at (.lst [.non, .ref B1, .ref B2, .ref B3, .ref B4, .int 3]) hB5
    have s56 := sdd.trans (sB1.trans (sB2.trans (sB3.trans (sB4.trans sB5))))
    have edd6 := sB5 _ _ (sB4 _ _ (sB3 _ _ (sB2 _ _ (sB1 _ _ edd))))
    have eB16 := sB5 _ _ (sB4 _ _ (sB3 _ _ (sB2 _ _ eB1)))
    have eB26 := sB5 _ _ (sB4 _ _ (sB3 _ _ eB2))
    have eB36 := sB5 _ _ (sB4 _ _ eB3)
    have eB46 := sB5 _ _ eB4
    have ndd : H5 dd = none := hdd
    obtain ⟨wl5, hwl5⟩ := hw5.lst
    have nddw : dd ≠ wa := ne_of_none' hdd hwl5
    have nB3w : B3 ≠ wa := ne_of_none' hB3 (sB2 _ _ (sB1 _ _ (sdd _ _ hwl5)))
    have nB5w : B5 ≠ wa := ne_of_none' hB5 (sB4 _ _ (sB3 _ _ (sB2 _ _ (sB1 _ _ (sdd _ _ hwl5)))))
    clear hB5 sB5 hB4 sB4 eB4 hB3 sB3 eB3 hB2 sB2 eB2 hB1 sB1 eB1 hdd sdd edd
    generalize upd (upd _ B4 _) B5 _ = H6 at *
    have hwl6 := s56 _ _ hwl5
    refine ⟨wa, B5, c + 5, _, rfl, hw5.same s56, by omega, by omega, eB5, nB5w, (by show 0 < 6; decide), (by show 6 ≤ 1000; decide), fun H7 i x b67 hw7 hx => ?_⟩
    have val : ∃ o, ValC K H7 x o ∧ o.elim false valueOk = false := by
      have hm := List.mem_of_getElem? hx
      simp only [List.mem_cons, List.not_mem_nil, or_false] at hm
      rcases hm with rfl | rfl | rfl | rfl | rfl | rfl
      · exact ⟨none, .inl (.inl rfl), rfl⟩
      · exact ⟨some ("dir", z16), ⟨⟨B1, rfl, b67 _ _ (ne_of eB16 hwl6 (by intro z; cases z)) eB16⟩, by decide +kernel⟩, by decide +kernel⟩
      · exact ⟨some ("file", "0"), ⟨⟨B2, rfl, b67 _ _ (ne_of eB26 hwl6 (by intro z; cases z)) eB26⟩, by decide +kernel⟩, by decide +kernel⟩
      · exact ⟨none, .inl (.inr (.inr ⟨B3, _, rfl, b67 _ _ nB3w eB36⟩)), rfl⟩
      · exact ⟨none, .inr ⟨B4, _, rfl, b67 _ _ (ne_of eB46 hwl6 (by intro z; cases z)) eB46, by decide⟩, rfl⟩
      · exact ⟨none, .inl (.inr (.inl ⟨3, rfl⟩)), rfl⟩
    obtain ⟨o, hvx, hox⟩ := val
    obtain ⟨p, l, esg, e9, hp4, hl4⟩ := odd_key g1 g3
    have hq9 := alph9_of l hl4
    have hpl : p.length ≤ 2 := by rw [esg, List.length_append] at g2; have : p.length + 1 ≤ 3 := g2; omega
    obtain ⟨op1, op2, op3⟩ := odd_path hp4 hq9 hpl
    have hzn : jn sg ++ ("9" : Str) ∉ fs.map (·.1) := by rw [e9]; exact odd_notin hfs hp4 hq9
    have edd7 := b67 _ _ nddw edd6
    have b17 : But wa H1 H7 := fun y o n q => b67 _ _ n (s56 _ _ (b15 _ _ n q))
    have dr7 : DR (PairAt H7) kvs fs := dr5.imp fun v p q => (q.same s56).butO hwl6 (by intro _ z; cases z) b67
    have odd8 := odd_chk (K := K) (z := jn sg ++ ("9" : Str)) edd7 dr7 hfo hzn (by rw [e9]; exact op2) (by rw [e9]; exact op3) hvx hox
    have b58 : But wa H5 (upd H7 dd (.dK (putK kvs (.inr (jn sg ++ ("9" : Str))) x))) := fun y o n q => by
      rw [upd_ne (ne_of_none q ndd)]
      exact b67 _ _ n (s56 _ _ q)
    have hb8 := (hb5.but hwl5 b58).bad
    have hbad8 := (hbad5.but hwl5 b58).bad
    have hd8 := b58 _ _ nda hd5
    have htb8 := b58 _ _ (ne_of htb5 hwl5 (by intro z; cases z)) htb5
    have dr8 : DR (PairAt _) kvs fs := dr5.imp fun v p q => q.butO hwl5 (by intro _ z; cases z) b58
    have b18 : But wa H1 _ := fun y o n q => b58 _ _ n (b15 _ _ n q)
    have hst8 : StAt K _ a kd ks := StAt.butL hwl1 b18 (StAt.same ⟨dxS, kvS, haS, hkS, hdS⟩ s1)
    have hw8 := hw7.upd (o := .dK (putK kvs (.inr (jn sg ++ ("9" : Str))) x)) nddw
    have edd8 := odd8.chk.at_
    refine ⟨_, rfl, _, rfl, _, _, rfl, rfl, line_of (by have e1 : (Str.ofString "9").length = 1 := (by decide +kernel); rw [e1]; omega), dd, _, rfl, .inl ⟨kvs, .inr (jn sg ++ ("9" : Str)), edd7, rfl, by rw [hkl2]; exact line_lt (by omega), rfl⟩, ?_⟩
    clear hw7 hx hvx dr7 b17 edd7 b67 b58 eB16 eB26 eB36 eB46 eB5
    generalize upd H7 dd _ = H8 at *
    generalize putK kvs (.inr (jn sg ++ ("9" : Str))) x = kvo at *
    have b18 : But wa H1 H8 := b18
    have hst8 : StAt K H8 a kd ks := hst8
    -- wide
    refine ⟨_, rfl, (by decide), (by decide), fun D hD => lc_range (lo := 0) (n := 31) (fun j H' => Same H8 H' ∧ ∃ (ps : List Addr) (bkv : List (Key × V)), H' D = some (.lst (ps.map V.ref)) ∧ Paired (fun p kv => H' p = some (.tup [kV kv.1, kv.2])) ps bkv ∧ DR (PairAt H') bkv (wideF.take j))
      ⟨Same.new hD, [], [], upd_same, .nil, .nil⟩ ?_ ?_⟩
    · rintro j H9 hj ⟨s9, ps, bkv, l9, p9, d9⟩
      have hwk := wide_short j hj
      have e0 : (0 + (j : Int)) = (j : Int) := Int.zero_add _
      refine ⟨rfl, _, rfl, _, rfl, ?_, _, _, rfl, rfl, ?_, 48, 16, (by decide +kernel), rfl, (by decide), (by decide), ⟨(by show 2 ≤ sizeLine; exact line_of (by decide)), fun T3 hT3 => ⟨(by show 2 ≤ sizeLine; exact line_of (by decide)), fun T4 hT4 => ?_⟩⟩⟩
      · rw [e0]
        exact Nat.lt_of_le_of_lt (Nat.log2_le_self _) (by rw [Int.natAbs_natCast]; omega)
      · rw [e0]
        have e1 : (Str.ofString "n").length = 1 := by decide +kernel
        rw [e1]
        exact line_of (by omega)
      rw [e0]
      obtain ⟨sT3, eT3⟩ := new_at (.tup [.str "file", .str z16]) hT3
      obtain ⟨sT4, eT4⟩ := new_at (.tup [.str (Str.ofString "n" ++ Str.ofString (toString ((j : Nat) : Int))), .ref T3]) hT4
      have l10 := sT4 _ _ (sT3 _ _ l9)
      have hpl : ps.length ≤ 31 := by
        rw [paired_len p9, d9.len]
        exact Nat.le_trans (List.length_take_le _ _) (by omega)
      have nD : ∀ {c : Addr} {o : HO}, (upd (upd H9 T3 (.tup [.str "file", .str z16])) T4 (.tup [.str (Str.ofString "n" ++ Str.ofString (toString ((j : Nat) : Int))), .ref T3])) c = some o → (∀ xs, o ≠ .lst xs) → (upd (upd (upd H9 T3 (.tup [.str "file", .str z16])) T4 (.tup [.str (Str.ofString "n" ++ Str.ofString (toString ((j : Nat) : Int))), .ref T3])) D (.lst (ps.map V.ref ++ [.ref T4]))) c = some o := fun h hn => by
        rw [upd_ne (ne_of h l10 (hn _))]; exact h
      have htk : wideF.take (j + 1) = wideF.take j ++ [(("n" : Str) ++ Str.ofString (toString ((j : Nat) : Int)), (("file" : Str), z16))] := by
        rw [List.take_add_one, wide_get hj]
        rfl
      refine ⟨_, l10, by rw [List.length_map]; exact line_lt (by omega), (s9.trans (sT3.trans sT4)).mut hD, ps ++ [T4], bkv ++ [(.inr (("n" : Str) ++ Str.ofString (toString ((j : Nat) : Int))), .ref T3)], by rw [upd_same, List.map_append]; rfl, ?_, ?_⟩
      · refine paired_snoc (a := T4) (b := ((.inr (("n" : Str) ++ Str.ofString (toString ((j : Nat) : Int))), .ref T3) : Key × V)) (nD eT4 (by intro _ z; cases z)) ?_
        exact L2.Paired.mapP p9 fun _ _ q => nD (sT4 _ _ (sT3 _ _ q)) (by intro _ z; cases z)
      · rw [htk]
        refine paired_snoc (F := fun (p : Key × V) (f : Str × (Str × Str)) => p.1 = .inr f.1 ∧ PairAt _ p.2 f.2) ⟨rfl, T3, rfl, nD (o := .tup [.str "file", .str z16]) (sT4 _ _ eT3) (by intro _ z; cases z)⟩ (d9.imp fun v p q => PairAt.mut (u := .lst (ps.map V.ref)) ((q.same sT3).same sT4) l10 (by intro _ z; cases z))
    rintro H9 ⟨s9, ps, bkv, l9, p9, d9⟩
    rw [List.take_of_length_le (show wideF.length ≤ 31 by decide +kernel)] at d9
    refine ⟨D, ps, bkv, rfl, SqL.of l9, L2.Paired.mapP p9 fun _ _ q => SqT.of q, fun wd hwd => ?_⟩
    have dw := merge_dr wide_ok.nd d9
    generalize mergeK [] bkv = wkv at dw
    obtain ⟨swd, ewd⟩ := new_at (.dK wkv) hwd
    have s8w := s9.trans swd
    have dw := dw.imp fun v p q => q.same swd
    clear hwd swd d9 p9 l9 s9
    generalize upd H9 wd _ = H10 at *
    -- both
    refine ⟨_, rfl, dd, _, rfl, .inl (s8w _ _ edd8), fun bb hbb => ?_⟩
    obtain ⟨sbb, ebb⟩ := new_at (.dK kvo) hbb
    refine ⟨48, 16, (by decide +kernel), rfl, (by decide), (by decide), ⟨(by show 2 ≤ sizeLine; exact line_of (by decide)), fun T5 hT5 => ?_⟩⟩
    obtain ⟨sT5, eT5⟩ := new_at (.tup [.str "file", .str ⟨(List.replicate 16 #[48]).foldl (· ++ ·) #[]⟩]) hT5
    have oddb : OddS K _ bb _ _ _ _ := ⟨⟨sT5 _ _ ebb, odd8.chk.len, odd8.chk.short, L2.Paired.mapP odd8.chk.vals fun _ _ q => ((q.same s8w).same sbb).same sT5⟩, odd8.keys, odd8.bad⟩
    obtain ⟨hbd, hbl⟩ := both_bad oddb hfo (by rw [e9]; exact op1) eT5
    refine ⟨_, rfl, bb, _, rfl, .inl ⟨_, .inr (Str.ofString "a/../b"), sT5 _ _ ebb, rfl, line_lt (by omega), rfl⟩, ?_⟩
    have sX : Same H10 (upd (upd (upd H10 bb (.dK kvo)) T5 (.tup [.str "file", .str ⟨(List.replicate 16 #[48]).foldl (· ++ ·) #[]⟩])) bb (.dK (putK kvo (.inr (Str.ofString "a/../b")) (.ref T5)))) := (sbb.trans sT5).mut hbb
    have s8b := s8w.trans sX
    have ebd := hb8.same s8b
    have eod := hbad8.same s8b
    have odd11 := odd8.same s8b
    have ewd11 := sX _ _ ewd
    have dw11 := dw.imp fun v p q => q.same sX
    generalize upd (upd (upd H10 bb _) T5 _) bb _ = H11 at *
    have hneC : ca K "BadPath" ≠ ca K "BadName" := fun e => by
      have h1 := M.nP
      rw [← e, M.pP] at h1
      cases h1
    have hst11 := hst8.same s8b
    clear sX
    refine ⟨_, rfl, _, rfl, _, rfl, (by show 3 ≤ sizeLine; exact line_of (by decide)), fun q hq => ?_⟩
    obtain ⟨sq, eq⟩ := new_at (.lst [.ref bd, .ref od, .ref bb]) hq
    refine ⟨q, rfl, ⟨_, SqL.of eq⟩, for_list (xs := [.ref bd, .ref od, .ref bb]) (fun i σ H' => (∃ x10, σ = [some (.ref wa), some (.ref a), some (.ref d), some (.ref tb), some (.str (jn sg)), some (.ref bd), some (.ref od), some (.ref dd), some (.ref wd), some (.ref bb), x10, none, none, none]) ∧ Same H11 H' ∧ H' q = some (.lst [.ref bd, .ref od, .ref bb])) ?_ ?_ ?_ ?_⟩
    · exact ⟨⟨_, rfl⟩, sq, eq⟩
    · exact fun i σ H' _ z => SqL.of z.2.2
    · rintro i x1 σ H12 hx1 ⟨⟨x10, rfl⟩, s12, e12⟩
      have hbx : ∃ ad, x1 = .ref ad ∧ BadD K H12 ad := by
        have hm := List.mem_of_getElem? hx1
        simp only [List.mem_cons, List.not_mem_nil, or_false] at hm
        rcases hm with rfl | rfl | rfl
        · exact ⟨bd, rfl, ebd.same s12⟩
        · exact ⟨od, rfl, eod.same s12⟩
        · exact ⟨bb, rfl, hbd.same s12⟩
      obtain ⟨ad, rfl, hba⟩ := hbx
      refine ⟨_, rfl, _, rfl, a, .ref ad, rfl, hba.put (hst11.same s12) (by omega) fun H13 dx s13 => ⟨fun _ q2 hq2 => ?_, fun e => absurd (Value.ref.inj e) hneC, .inl rfl⟩⟩
      obtain ⟨sq2, eq2⟩ := new_at (.tup [.str "path", .non]) hq2
      refine ⟨q2, _, _, _, rfl, rfl, SqT.of eq2, rfl, rfl, _, rfl, ite2 (fun h => absurd h (by simp)) (fun _ => ?_)⟩
      exact ⟨⟨_, rfl⟩, s12.trans (s13.trans sq2), sq2 _ _ (s13 _ _ e12)⟩
    rintro σ H12 ⟨⟨x10, rfl⟩, s12, _⟩
    refine ⟨_, rfl, _, rfl, ?_⟩
    dsimp only [tNil]
    refine (odd11.same s12).lput (hst11.same s12) (by omega) hneC fun zz H13 q3 hzz _ s13 e3 => ?_
    have hin : inV (.str zz) [.str "name", .str "path"] = true := by
      rcases hzz with rfl | rfl <;> decide +kernel
    refine ⟨q3, _, _, _, rfl, rfl, SqT.of e3, rfl, (by show 2 ≤ sizeLine; exact line_of (by decide)), fun q4 hq4 => ?_⟩
    obtain ⟨s4, e4⟩ := new_at (.tup [.str "name", .str "path"]) hq4
    refine ⟨q4, _, rfl, .inr (SqT.of e4), rfl, rfl, _, rfl, ite2 (fun h => absurd h (by simp [hin])) (fun _ => ?_)⟩
    have s14 := s12.trans (s13.trans s4)
    generalize upd H13 q4 _ = H14 at *
    refine ⟨_, rfl, _, rfl, ?_⟩
    dsimp only [tNil]
    refine wide_lput (hst11.same s14) (by omega) hneC (s14 _ _ ewd11) (dw11.imp fun v p q => q.same s14) hok hinj fun H15 q5 s15 e5 => ?_
    refine ⟨q5, _, _, _, rfl, rfl, SqT.of e5, rfl, rfl, _, rfl, ite2 (fun h => absurd h (by simp)) (fun _ => ?_)⟩
    have s16 := s14.trans s15
    have hd15 := s16 _ _ (s8b _ _ hd8)
    have dr15 : DR (PairAt H15) kvs fs := dr8.imp fun v p q => (q.same s8b).same s16
    have e9l : (Str.ofString "9").length = 1 := by decide +kernel
    have esl : (Str.ofString "/").length = 1 := by decide +kernel
    have hfl : ∀ f ∈ fs, f.1.length ≤ 20 := fun f hf => by
      obtain ⟨sg', e, _, l1, l2⟩ := hfs.seg f hf
      have := jn_len (b := 3) sg' fun s hs => alph7_len s (l2 s hs)
      rw [e]
      omega
    refine ⟨d, .dK kvs, hd15, trivial, fun ob1 => ?_⟩
    refine ⟨_, rfl, d, ob1, rfl, .inl ⟨kvs, upd_same, fun D1 hD1 => lc_of (n := kvs.length) (fun j H' => Same (upd H15 d (.frz ob1 (.dK kvs))) H' ∧ ∃ zs : List Str, zs.length ≤ j ∧ H' D1 = some (.lst (zs.map V.str)))
      ⟨Same.new hD1, [], Nat.le_refl _, upd_same⟩ (fun j H' hj q => ⟨q.1 _ _ upd_same, hj⟩) (fun H' q => ⟨q.1 _ _ upd_same, Nat.le_refl _⟩) ?_ ?_⟩⟩
    · rintro j y H16 H17 hj ⟨s17, zs, hzs, l17⟩ ⟨rfl, kk, v, hkv, rfl⟩
      obtain ⟨f, hf, rfl, _⟩ := dr15.get hkv
      have hf20 := hfl f (List.mem_of_getElem? hf)
      refine ⟨rfl, _, rfl, ⟨_, rfl⟩, _, rfl, _, _, rfl, rfl, line_of (by rw [e9l]; omega), _, _, rfl, rfl, _, rfl, ite2 (fun _ => ?_) (fun _ => ?_)⟩
      · exact ⟨_, rfl, _, l17, by rw [List.length_map]; exact line_lt (by omega), s17.mut hD1, zs ++ [f.1], by rw [List.length_append]; show zs.length + 1 ≤ j + 1; omega, by rw [upd_same, List.map_append]; rfl⟩
      · exact ⟨s17, zs, by omega, l17⟩
    rintro H16 ⟨s17, zs, hzs, l17⟩
    refine ⟨s17 _ _ upd_same, ?_⟩
    have sU : Same H15 (upd H16 d (.dK kvs)) := Same.unlock hd15 s17
    have nDd : D1 ≠ d := fun z => by rw [z, upd_same] at hD1; cases hD1
    have lD : (upd H16 d (.dK kvs)) D1 = some (.lst (zs.map V.str)) := by rw [upd_ne nDd]; exact l17
    generalize upd H16 d (.dK kvs) = H18 at sU lD
    refine ⟨Nat.zero_le _, fun q6 hq6 => ⟨D1, q6, _, rfl, rfl, SqL.of ((Same.new hq6) _ _ lD), SqL.of upd_same, _, rfl, ?_⟩⟩
    have s19 := (s16.trans sU).new' (o := .lst []) hq6
    generalize upd H18 q6 (.lst []) = H19 at s19
    have hw11 := hw8.same s8b
    have htb11 := s8b _ _ htb8
    have b111 : But wa H1 H11 := fun y o n q => s8b _ _ (b18 _ _ n q)
    have hidk : ∀ z ∈ srt (ks.map (·.1)), txOk z = true := fun z hz => by
      obtain ⟨t, ht, rfl⟩ := List.mem_map.mp (srt_mem.mp hz)
      rw [(hok t ht).1]
      exact txOk_id (hid_id _)
    generalize hN : tSeq (tIfS (tTest (tOp rNe (tOp _ (tCall _ _ _ (tCons (tVar 1) (tCons (tCall spPick _ _ _) _))) _) _)) _ _) _ _ = N
    have tail : ∀ x10 x11 H20, Same H11 H20 → N [some (.ref wa), some (.ref a), some (.ref d), some (.ref tb), some (.str (jn sg)), some (.ref bd), some (.ref od), some (.ref dd), some (.ref wd), some (.ref bb), x10, x11, none, none] H20 := by
      intro y10 y11 H20 s20
      rw [← hN]
      obtain ⟨wl20, hwl20⟩ := (hw11.same s20).lst
      refine ⟨_, rfl, _, rfl, Nat.zero_le _, fun M1 hM1 => ⟨Nat.zero_le _, fun M2 hM2 => ⟨(by show 4 ≤ sizeLine; exact line_of (by decide)), fun M3 hM3 => ?_⟩⟩⟩
      obtain ⟨sM1, eM1⟩ := new_at (.lst []) hM1
      obtain ⟨sM2, eM2⟩ := new_at (.tup []) hM2
      obtain ⟨sM3, eM3⟩ := new_at (.lst [.non, .ref M1, .ref M2, .str "a"]) hM3
      have nM1 : M1 ≠ wa := ne_of_none' hM1 hwl20
      have nM3 : M3 ≠ wa := ne_of_none' hM3 (sM2 _ _ (sM1 _ _ hwl20))
      have eM1' := sM3 _ _ (sM2 _ _ eM1)
      have eM2' := sM3 _ _ eM2
      have s23 := s20.trans (sM1.trans (sM2.trans sM3))
      generalize upd (upd (upd H20 M1 _) M2 _) M3 _ = H23 at *
      obtain ⟨wl23, hwl23⟩ := (hw11.same s23).lst
      refine ⟨wa, M3, c + 5 + 1, _, rfl, hw11.same s23, by omega, by omega, eM3, nM3, (by show 0 < 4; decide), (by show 4 ≤ 1000; decide), fun H24 i y b24 hw24 hy => ?_⟩
      have ty : ∃ t, TyX K H24 y (.type t) ∧ kitB t "dict" = some false := by
        have hm := List.mem_of_getElem? hy
        simp only [List.mem_cons, List.not_mem_nil, or_false] at hm
        rcases hm with rfl | rfl | rfl | rfl
        · exact ⟨_, .base .non, by decide +kernel⟩
        · exact ⟨_, .base (.lst (b24 _ _ nM1 eM1')), by decide +kernel⟩
        · exact ⟨_, .base (.tup (b24 _ _ (ne_of eM2' hwl23 (by intro z; cases z)) eM2')), by decide +kernel⟩
        · exact ⟨_, .base (.str _), by decide +kernel⟩
      obtain ⟨t, ht, hk⟩ := ty
      have hst24 : StAt K H24 a kd ks := StAt.butL hwl23 b24 (hst11.same s23)
      dsimp only [tNil]
      refine other_lput hst24 (by omega) hneC ht hk fun H25 q8 s25 e8 => ?_
      refine ⟨q8, _, _, _, rfl, rfl, SqT.of e8, rfl, rfl, _, rfl, ite2 (fun h => absurd h (by simp)) (fun _ => ?_)⟩
      have hst25 := hst24.same s25
      have htb25 := s25 _ _ (b24 _ _ (ne_of (s23 _ _ htb11) hwl23 (by intro z; cases z)) (s23 _ _ htb11))
      obtain ⟨dx5, kv5, ha5, _⟩ := id hst25
      refine ⟨_, rfl, _, rfl, a, dx5, stF kd, rfl, ha5, rfl, a, kd, ks, rfl, hst25, by omega, fun H26 t2 s26 ht2 => ?_⟩
      refine ⟨.tuple ((srt (ks.map (·.1))).map PyData.str), .tuple ((srt (ks.map (·.1))).map PyData.str), .tup (SqT.of (s26 _ _ htb25)) (dp_strs _), .tup (SqT.of ht2) (dp_strs _), shaped_strs hidk, shaped_strs hidk, ?_⟩
      have he : PyData.eqv (.tuple ((srt (ks.map (·.1))).map PyData.str)) (.tuple ((srt (ks.map (·.1))).map PyData.str)) = true := by
        have := eqv_all PyData.str eqv_str (srt (ks.map (·.1))) (srt (ks.map (·.1)))
        simpa [PyData.eqv] using this
      rw [he]
      exact kQ H26 (c + 5 + 1 + 1) (fun y o n q => s26 _ _ (s25 _ _ (b24 _ _ n (s23 _ _ (b111 _ _ n (s1 _ _ q)))))) ((hw24.same s25).same s26) (by omega) (by omega)
    refine ite2 (fun c1 => ?_) (fun _ => tail _ _ _ s19)
    have hd19 := s19 _ _ (s8b _ _ hd8)
    refine ⟨_, rfl, _, rfl, d, _, rfl, .inl ⟨kvs, .inr (jn sg), .inl hd19, rfl, rfl⟩, _, rfl, ite2 (fun c2 => ?_) (fun _ => tail _ _ _ s19)⟩
    have dr19 : DR (PairAt H19) kvs fs := dr8.imp fun v p q => (q.same s8b).same s19
    refine ⟨d, .dK kvs, hd19, trivial, fun ob2 => ?_⟩
    refine ⟨_, rfl, d, ob2, rfl, .inl ⟨kvs, upd_same, fun D2 hD2 => lc_of (n := kvs.length) (fun j H' => Same (upd H19 d (.frz ob2 (.dK kvs))) H' ∧ H' D2 = some (.lst ((((fs.take j).map (·.1)).filter fun z => Txt.startswith (jn sg) (z ++ ("/" : Str))).map V.str)))
      ⟨Same.new hD2, upd_same⟩ (fun j H' hj q => ⟨q.1 _ _ upd_same, hj⟩) (fun H' q => ⟨q.1 _ _ upd_same, Nat.le_refl _⟩) ?_ ?_⟩⟩
    · rintro j y H20 H21 hj ⟨s21, l21⟩ ⟨rfl, kk, v, hkv, rfl⟩
      obtain ⟨f, hf, rfl, _⟩ := dr19.get hkv
      have hf20 := hfl f (List.mem_of_getElem? hf)
      have htk : ((fs.take (j + 1)).map (·.1)).filter (fun z => Txt.startswith (jn sg) (z ++ ("/" : Str))) = ((fs.take j).map (·.1)).filter (fun z => Txt.startswith (jn sg) (z ++ ("/" : Str))) ++ (if Txt.startswith (jn sg) (f.1 ++ ("/" : Str)) = true then [f.1] else []) := by
        rw [List.take_add_one, hf, List.map_append, List.filter_append]
        congr 1
        show List.filter _ [f.1] = _
        cases c : Txt.startswith (jn sg) (f.1 ++ ("/" : Str)) <;> simp [c]
      refine ⟨rfl, _, rfl, ⟨_, rfl⟩, _, rfl, _, _, rfl, rfl, line_of (by rw [esl]; omega), _, _, rfl, rfl, _, rfl, ite2 (fun h => ?_) (fun h => ?_)⟩
      · refine ⟨_, rfl, _, l21, ?_, s21.mut hD2, ?_⟩
        · rw [List.length_map]
          refine line_lt (Nat.le_trans (List.length_filter_le _ _) ?_)
          rw [List.length_map]
          have := List.length_take_le' j fs
          omega
        · rw [upd_same, htk, if_pos h, List.map_append]
          rfl
      · refine ⟨s21, ?_⟩
        rw [htk, if_neg h, List.append_nil]
        exact l21
    rintro H20 ⟨s21, l21⟩
    refine ⟨s21 _ _ upd_same, ?_⟩
    have ek : fs.take kvs.length = fs := List.take_of_length_le (by rw [dr19.len]; exact Nat.le_refl _)
    rw [ek] at l21
    have sU2 : Same H19 (upd H20 d (.dK kvs)) := Same.unlock hd19 s21
    have nDd2 : D2 ≠ d := fun z => by rw [z, upd_same] at hD2; cases hD2
    have lD2 : (upd H20 d (.dK kvs)) D2 = some (.lst (((fs.map (·.1)).filter fun z => Txt.startswith (jn sg) (z ++ ("/" : Str))).map V.str)) := by rw [upd_ne nDd2]; exact l21
    generalize upd H20 d (.dK kvs) = H22 at sU2 lD2
    refine ⟨_, rfl, Nat.zero_le _, fun q7 hq7 => ⟨D2, q7, _, rfl, rfl, SqL.of ((Same.new hq7) _ _ lD2), SqL.of upd_same, _, rfl, ?_⟩⟩
    have s23 := (s19.trans sU2).new' (o := .lst []) hq7
    generalize upd H22 q7 (.lst []) = H23 at s23
    refine ite2 (fun c3 => ?_) (fun _ => tail _ _ _ s23)
    have hnear : ∀ f ∈ fs, Txt.startswith (jn sg) (f.1 ++ ("/" : Str)) = false := fun f hf => by
      rw [List.isEmpty_iff, List.map_eq_nil_iff, List.filter_eq_nil_iff] at c3
      have := c3 f.1 (List.mem_map_of_mem hf)
      simpa using this
    have hpo : pathsOk kvo := by
      refine ⟨List.all_eq_true.mpr fun x hx => ?_, ?_⟩
      · have : x.1 ∈ kvo.map (·.1) := List.mem_map_of_mem hx
        rw [odd11.keys] at this
        obtain ⟨y, hy, e⟩ := List.mem_map.mp this
        rw [← e]
        rcases List.mem_append.mp hy with hy | hy
        · obtain ⟨f, hf', rfl⟩ := List.mem_map.mp hy
          exact (hfo.path f hf').1
        · rw [List.mem_singleton.mp hy, e9]
          exact op1
      · rw [keysZ_map odd11.keys, e9]
        exact odd_clash hfs hfo.clash hl4 hp4 hq9 (by rw [← esg]; exact hnear)
    refine ⟨_, rfl, _, rfl, ?_⟩
    dsimp only [tNil]
    refine (odd11.same s23).lput (hst11.same s23) (by omega) hneC fun zz H24 q9 hzz hz s24 e9' => ?_
    obtain rfl := hz hpo
    refine ⟨q9, _, _, _, rfl, rfl, SqT.of e9', rfl, rfl, _, rfl, ite2 (fun h => absurd h (by simp)) (fun _ => tail _ _ _ (s23.trans s24))⟩
end
end FK

/-! Forkhaul k08: trees by hand, the mathematics. -/
namespace FK
open PySem PySem.Spec PyProof.Rows L2 TL
open PySem.W (Frag)
/-! ### items as data -/
def itD (e : Str × (Str × Str)) : PyData := .tuple [.str e.1, pairD e.2]
theorem eqv_itD (a b : Str × (Str × Str)) : PyData.eqv (itD a) (itD b) = decide (a = b) := by
  have h : PyData.eqv (itD a) (itD b) = (PyData.eqv (.str a.1) (.str b.1) && (PyData.eqv (pairD a.2) (pairD b.2) && true)) := by simp [itD, PyData.eqv, PyData.eqvAll]
  rw [h, eqv_str, eqv_pair, Bool.and_true, Bool.eq_iff_iff, Bool.and_eq_true, decide_eq_true_eq, decide_eq_true_eq, decide_eq_true_eq]
  exact ⟨fun ⟨x, y⟩ => Prod.ext x y, fun e => by rw [e]; exact ⟨rfl, rfl⟩⟩
theorem eqv_its (l m : Fls) : PyData.eqv (.list (l.map itD)) (.list (m.map itD)) = decide (l = m) := by
  have := eqv_all itD eqv_itD l m
  simpa [PyData.eqv] using this
theorem shaped_its {l : Fls} (h : ∀ e ∈ l, txOk e.1 = true ∧ txOk e.2.1 = true ∧ txOk e.2.2 = true) : SeqAt.shaped (.list (l.map itD)) = true := by
  unfold SeqAt.shaped
  rw [Bool.and_eq_true]
  refine ⟨lay_all itD l fun e he => ?_, decide_eq_true ?_⟩
  · obtain ⟨h1, h2, h3⟩ := h e he
    show (txOk e.1 && ((txOk e.2.1 && (txOk e.2.2 && true)) && true)) = true
    rw [h1, h2, h3]
    rfl
  · show PyData.depthAll (l.map itD) + 1 ≤ 64
    have := depth_all itD 2 l fun e _ => by
      show max 0 (max (max 0 (max 0 0) + 1) 0) + 1 ≤ 2
      decide
    omega
/-- list(d.items()) -/
theorem items_dp {K : Frag} {H : Hp} : ∀ {ts : List Addr} {kvs : List (Key × V)} {l : Fls}, Paired (fun (t : Addr) (q : Key × V) => H t = some (.tup [kV q.1, q.2])) ts kvs → DR (PairAt H) kvs l → DpAll K H (ts.map V.ref) (l.map itD)
  | _, _, _, .nil, .nil => .nil
  | _, _, _, .cons h r, .cons q d => by
    refine .cons (.tup (SqT.of h) (.cons ?_ (.cons q.2.dp .nil))) (items_dp r d)
    rw [q.1]
    exact .str _
/-- a list of pairs -/
def ItAt (H : Hp) (v : V) (e : Str × (Str × Str)) : Prop := ∃ t u, v = .ref t ∧ H t = some (.tup [.str e.1, u]) ∧ PairAt H u e.2
theorem ItAt.same {H H' : Hp} {v : V} {e : Str × (Str × Str)} (h : ItAt H v e) (s : Same H H') : ItAt H' v e := by
  obtain ⟨t, u, e1, e2, e3⟩ := h
  exact ⟨t, u, e1, s _ _ e2, e3.same s⟩
theorem ItAt.mut {H : Hp} {v : V} {e : Str × (Str × Str)} {d : Addr} {o u : HO} (h : ItAt H v e) (hd : H d = some u) (hu : ∀ xs, u ≠ .tup xs) : ItAt (upd H d o) v e := by
  obtain ⟨t, y, e1, e2, e3⟩ := h
  exact ⟨t, y, e1, by rw [upd_ne (ne_of e2 hd (hu _).symm)]; exact e2, PairAt.mut e3 hd hu⟩
theorem its_dp {K : Frag} {H : Hp} : ∀ {vs : List V} {l : Fls}, Paired (ItAt H) vs l → DpAll K H vs (l.map itD)
  | _, _, .nil => .nil
  | _, _, .cons h r => by
    obtain ⟨t, u, rfl, e2, e3⟩ := h
    exact .cons (.tup (SqT.of e2) (.cons (.str _) (.cons e3.dp .nil))) (its_dp r)
/-! ### stores that grow -/
theorem val_keep {U : Th → Prop} {ks : List (Str × Th)} {t u : Th} (i : Inj U) (ht : U t) (hu : U u) (h : valS ks (hid t) = some t) : valS (putS ks (hid u) u) (hid t) = some t := by
  rw [valS_put]
  by_cases e : hid t = hid u
  · rw [if_pos e, i t u ht hu e]
  · rw [if_neg e]; exact h
theorem val_new {ks : List (Str × Th)} {u : Th} : valS (putS ks (hid u) u) (hid u) = some u := by rw [valS_put, if_pos rfl]
theorem val_out {ks : List (Str × Th)} {u : Th} {z : Str} (h : valS ks z = none) (hz : z ≠ hid u) : valS (putS ks (hid u) u) z = none := by rw [valS_put, if_neg hz]; exact h
theorem val_short {U : Th → Prop} {ks : List (Str × Th)} (h : KsOk U ks) {z : Str} (hz : z.length ≠ 16) : valS ks z = none := valS_none.mpr fun m => by
  obtain ⟨x, hx, e⟩ := List.mem_map.mp m
  rw [← e, (h x hx).1] at hz
  exact hz (hid_len _)
theorem KsOk.good {U : Th → Prop} {ks : List (Str × Th)} (h : KsOk U ks) (g : ∀ t, U t → ThGood t) : KsGood ks := fun x hx => g _ (h x hx).2
/-! ### the files below a root -/
theorem map_inj {α β : Type} {f : α → β} : ∀ {l : List α}, (l.map f).Nodup → ∀ {a b : α}, a ∈ l → b ∈ l → f a = f b → a = b
  | [], _, a, _, h, _, _ => by cases h
  | x :: l, n, a, b, ha, hb, e => by
    rw [List.map_cons, List.nodup_cons] at n
    rcases List.mem_cons.mp ha with e1 | ha'
    · rcases List.mem_cons.mp hb with e2 | hb'
      · rw [e1, e2]
      · exact absurd (List.mem_map.mpr ⟨b, hb', by rw [← e, e1]⟩ : f x ∈ l.map f) n.1
    · rcases List.mem_cons.mp hb with e2 | hb'
      · exact absurd (List.mem_map.mpr ⟨a, ha', by rw [e, e2]⟩ : f x ∈ l.map f) n.1
      · exact map_inj n.2 ha' hb' e
theorem cons_inj_left {f a b : Str} (h : f ++ a = f ++ b) : a = b := by
  have h1 := congrArg tl h
  rw [tl_append, tl_append] at h1
  exact str_ext (List.append_cancel_left h1)
theorem RG.nosl {n : Nat} {R : List Row} (h : RG n R) {r : Row} (hr : r ∈ R) : ∀ s ∈ r.1, NoSl s := fun s hs => alph7_nosl s ((h.seg r hr).2.1 s hs)
theorem RG.key {n : Nat} {R : List Row} (h : RG n R) {r q : Row} (hr : r ∈ R) (hq : q ∈ R) (e : jn r.1 = jn q.1) : r = q := by
  have e1 : r.1 = q.1 := jn_inj (h.seg r hr).1 (h.seg q hq).1 (h.nosl hr) (h.nosl hq) e
  exact map_inj h.nd hr hq e1
structure RootTo (ks : List (Str × Th)) (R : List Row) (f : Str) (F F1 : Fls) : Prop where
  nd : (F1.map (·.1)).Nodup
  mem : ∀ e, e ∈ F1 ↔ e ∈ F ∨ ∃ r ∈ R, e = (f ++ jn r.1, r.2)
  run : ∀ st, RunsTo ks st F F1 [(f, .str (hid (.tree (held 4 R))), some (hid (.tree (held 4 R))))] 35
theorem run_root {ks : List (Str × Th)} {R : List Row} (hR : RG 4 R) (hl : R.length ≤ 80) (hin : ∀ t ∈ trees 4 R, valS ks (hid t) = some t) {f : Str} (hf : f.length ≤ 100) {F : Fls} (hF : (F.map (·.1)).Nodup) (hFl : F.length ≤ 100)
    (hd : ∀ e ∈ F, ∀ r ∈ R, e.1 ≠ f ++ jn r.1) : ∃ F1, RootTo ks R f F F1 := by
  have hfl := fl_of (ks := ks) (f := f) hR (by decide) hin
  obtain ⟨F1, g, run⟩ := run_good (ks := ks) (Gk := F.map (·.1) ++ R.map (fun r => f ++ jn r.1)) (by rw [List.length_append, List.length_map, List.length_map]; omega) 5 f (hid (.tree (held 4 R))) (held 4 R) (ents_of (hin _ held_in)) (tg_of hR (by decide) hin) (by omega)
    (fun e he => by
      obtain ⟨r, hr, rfl⟩ := (hfl e).mp he
      exact List.mem_append_right _ (List.mem_map.mpr ⟨r, hr, rfl⟩)) F hF (fun e he => List.mem_append_left _ (List.mem_map_of_mem he))
  refine ⟨F1, g.nd, fun e => ⟨fun he => ?_, fun he => ?_⟩, run⟩
  · rcases g.mem e he with h | h
    · exact .inl h
    · exact .inr ((hfl e).mp h)
  · have hk : e.1 ∈ F1.map (·.1) := g.key e.1 (by
      rcases he with h | h
      · exact .inl (List.mem_map_of_mem h)
      · exact .inr (List.mem_map_of_mem ((hfl e).mpr h)))
    obtain ⟨e', he', ek⟩ := List.mem_map.mp hk
    have h2 : e' ∈ F ∨ ∃ r ∈ R, e' = (f ++ jn r.1, r.2) := by
      rcases g.mem e' he' with h | h
      · exact .inl h
      · exact .inr ((hfl e').mp h)
    have : e' = e := by
      rcases he with h | ⟨r, hr, rfl⟩
      · rcases h2 with h' | ⟨r', hr', rfl⟩
        · exact map_inj hF h' h ek
        · exact absurd ek.symm (hd e h r' hr')
      · rcases h2 with h' | ⟨r', hr', rfl⟩
        · exact absurd ek (hd e' h' r hr)
        · rw [hR.key hr' hr (cons_inj_left ek)]
    rw [← this]
    exact he'
theorem mem_ents {l : List (Str × Str × Str)} (n : (l.map (·.1)).Nodup) {e : Str × Str × Str} : e ∈ ents l ↔ e ∈ l := by
  refine ⟨ents_mem, fun h => ?_⟩
  unfold ents
  refine List.mem_filterMap.mpr ⟨e.1, srt_mem.mpr (List.mem_map_of_mem h), ?_⟩
  rw [valS_of_mem n (k := e.1) (v := e.2) h]
  rfl
/-! ### trees by hand -/
def hb : Str := hid .blob
def hE : Str := hid (.tree [])
def rowL (root : Str) : List (Str × Str × Str) := [("dir", "dir", root), ("none", "dir", hE), ("f", "file", z16)]
def oneL (root : Str) : List (Str × Str × Str) := [("b", "dir", hb), ("r", "dir", root)]
def twoL (m0 m1 : Str) : List (Str × Str × Str) := [("x", "dir", m1), ("b", "dir", hb), ("y", "dir", m0)]
theorem ents_emp : ents [] = [] := ents_nil
theorem ents_row (root : Str) : ents (rowL root) = ([("dir", "dir", root), ("f", "file", z16), ("none", "dir", hE)] : List Ent) := by
  have e : srt ((rowL root).map (·.1)) = (["dir", "f", "none"] : List Str) := (srt_unique (ys := ["dir", "f", "none"]) (List.isPerm_iff.mp (by show (["dir", "f", "none"] : List Str).isPerm ["dir", "none", "f"] = true; decide +kernel)) (by decide +kernel)).symm
  unfold ents
  rw [e]
  rfl
theorem ents_one (root : Str) : ents (oneL root) = ([("b", "dir", hb), ("r", "dir", root)] : List Ent) := by
  have e : srt ((oneL root).map (·.1)) = (["b", "r"] : List Str) := (srt_unique (ys := ["b", "r"]) (List.isPerm_iff.mp (by show (["b", "r"] : List Str).isPerm ["b", "r"] = true; decide +kernel)) (by decide +kernel)).symm
  unfold ents
  rw [e]
  rfl
theorem ents_two (m0 m1 : Str) : ents (twoL m0 m1) = ([("b", "dir", hb), ("x", "dir", m1), ("y", "dir", m0)] : List Ent) := by
  have e : srt ((twoL m0 m1).map (·.1)) = (["b", "x", "y"] : List Str) := (srt_unique (ys := ["b", "x", "y"]) (List.isPerm_iff.mp (by show (["b", "x", "y"] : List Str).isPerm ["x", "b", "y"] = true; decide +kernel)) (by decide +kernel)).symm
  unfold ents
  rw [e]
  rfl
theorem good_emp : ThGood (.tree []) := ⟨.nil, Nat.zero_le _, fun e he => by cases he⟩
theorem good_of {l : List (Str × Str × Str)} (n : (l.map (·.1)).Nodup) (hl : l.length ≤ 30) (h : ∀ e ∈ l, EntOk e) : ThGood (.tree (ents l)) := ents_ok n (by omega) h
theorem dirK : isKind ("dir" : Str) = true := by decide +kernel
theorem ok_row {root : Str} (h : isIdS root = true) : ((rowL root).map (·.1)).Nodup ∧ ∀ e ∈ rowL root, EntOk e := by
  refine ⟨by show (["dir", "none", "f"] : List Str).Nodup; decide +kernel, fun e he => ?_⟩
  simp only [rowL, List.mem_cons, List.not_mem_nil, or_false] at he
  rcases he with rfl | rfl | rfl
  · exact ⟨show isSegS "dir" = true by decide +kernel, dirK, h⟩
  · exact ⟨show isSegS "none" = true by decide +kernel, dirK, hid_id _⟩
  · exact ⟨by decide +kernel, by decide +kernel, by decide +kernel⟩
theorem ok_one {root : Str} (h : isIdS root = true) : ((oneL root).map (·.1)).Nodup ∧ ∀ e ∈ oneL root, EntOk e := by
  refine ⟨by show (["b", "r"] : List Str).Nodup; decide +kernel, fun e he => ?_⟩
  simp only [oneL, List.mem_cons, List.not_mem_nil, or_false] at he
  rcases he with rfl | rfl
  · exact ⟨show isSegS "b" = true by decide +kernel, dirK, hid_id _⟩
  · exact ⟨show isSegS "r" = true by decide +kernel, dirK, h⟩
theorem ok_two {m0 m1 : Str} (h0 : isIdS m0 = true) (h1 : isIdS m1 = true) : ((twoL m0 m1).map (·.1)).Nodup ∧ ∀ e ∈ twoL m0 m1, EntOk e := by
  refine ⟨by show (["x", "b", "y"] : List Str).Nodup; decide +kernel, fun e he => ?_⟩
  simp only [twoL, List.mem_cons, List.not_mem_nil, or_false] at he
  rcases he with rfl | rfl | rfl
  · exact ⟨show isSegS "x" = true by decide +kernel, dirK, h1⟩
  · exact ⟨show isSegS "b" = true by decide +kernel, dirK, hid_id _⟩
  · exact ⟨show isSegS "y" = true by decide +kernel, dirK, h0⟩
/-! ### the walks -/
section
variable {ks : List (Str × Th)}
theorem ents_at {z : Str} {es : List Ent} (h : valS ks z = some (.tree es)) : entsOf ks (some z) = some es := by
  unfold entsOf
  simp only [h]
theorem ents_blob {z : Str} (h : valS ks z = some .blob) : entsOf ks (some z) = none := by
  unfold entsOf
  simp only [h]
theorem ents_out {z : Str} (h : valS ks z = none) : entsOf ks (some z) = none := by
  unfold entsOf
  simp only [h]
/-- what is none -/
theorem runs_odd {v : V} {o : Option Str} (h : entsOf ks o = none) : Runs ks 1 [(Str.ofString "", v, o)] [] [] [] [(v, o)] := by
  have r := Runs.step (ks := ks) (n := 0) (st := []) (f := Str.ofString "") (v := v) (o := o) (F := []) (W := []) (F' := []) (W' := [(v, o)]) (by decide +kernel) (by decide) (by decide) (by decide) (by
    rw [h]
    exact .done)
  exact r
theorem runs_root {R : List Row} (hR : RG 4 R) (hl : R.length ≤ 80) (hin : ∀ t ∈ trees 4 R, valS ks (hid t) = some t) :
    ∃ F1 m, Runs ks m [(Str.ofString "", .str (hid (.tree (held 4 R))), some (hid (.tree (held 4 R))))] [] [] F1 [] ∧ (F1.map (·.1)).Nodup ∧ ∀ e, e ∈ F1 ↔ ∃ r ∈ R, e = (jn r.1, r.2) := by
  obtain ⟨F1, h⟩ := run_root (f := Str.ofString "") (F := []) hR hl hin (by decide +kernel) .nil (by decide) (fun e he => by cases he)
  obtain ⟨m, hm⟩ := h.run [] [] F1 [] (by decide) (by decide) ⟨0, .done⟩
  refine ⟨F1, m, hm, h.nd, fun e => ?_⟩
  rw [h.mem]
  constructor
  · rintro (z | ⟨r, hr, e1⟩)
    · cases z
    · exact ⟨r, hr, e1.trans (by rw [show (Str.ofString "" ++ jn r.1) = jn r.1 from str_empty_app _])⟩
  · rintro ⟨r, hr, e1⟩
    exact .inr ⟨r, hr, e1.trans (by rw [show (Str.ofString "" ++ jn r.1) = jn r.1 from str_empty_app _])⟩
theorem runs_row {R : List Row} (hR : RG 4 R) (hl : R.length ≤ 80) (hin : ∀ t ∈ trees 4 R, valS ks (hid t) = some t) (hr : valS ks (hid (.tree (ents (rowL (hid (.tree (held 4 R))))))) = some (.tree (ents (rowL (hid (.tree (held 4 R)))))))
    (he : valS ks hE = some (.tree [])) : ∃ F1 m, Runs ks m [(Str.ofString "", .str (hid (.tree (ents (rowL (hid (.tree (held 4 R))))))), some (hid (.tree (ents (rowL (hid (.tree (held 4 R))))))))] [] [] F1 [] ∧ (F1.map (·.1)).Nodup ∧
      ∀ e, e ∈ F1 ↔ e = (("f" : Str), (("file" : Str), z16)) ∨ ∃ r ∈ R, e = (("dir/" : Str) ++ jn r.1, r.2) := by
  have ne : ∀ y : Str, ("f" : Str) ≠ ("dir/" : Str) ++ y := fun y e => by
    have := congrArg Str.length e
    rw [len_app] at this
    have h1 : ("f" : Str).length = 1 := by decide +kernel
    have h2 : ("dir/" : Str).length = 4 := by decide +kernel
    omega
  obtain ⟨F1, h⟩ := run_root (f := ("dir/" : Str)) (F := [(("f" : Str), (("file" : Str), z16))]) hR hl hin (by decide +kernel) (by decide +kernel) (by decide) (fun e he r _ => by
    rw [List.mem_singleton.mp he]
    exact ne _)
  obtain ⟨m, hm⟩ := h.run [] [] F1 [] (by decide) (by decide) ⟨0, .done⟩
  refine ⟨F1, m + 1 + 1, ?_, h.nd, fun e => by rw [h.mem, List.mem_singleton]⟩
  refine Runs.step (st := []) (by decide +kernel) (by decide) (by decide) (by decide) ?_
  rw [ents_at hr, ents_row]
  have e1 : ([] : List Ah) ++ pushes (Str.ofString "") ((some ([("dir", "dir", hid (.tree (held 4 R))), ("f", "file", z16), ("none", "dir", hE)] : List Ent)).getD []) = [(("dir/" : Str), .str (hid (.tree (held 4 R))), some (hid (.tree (held 4 R))))] ++ [(("none/" : Str), .str hE, some hE)] := by
    rfl
  have e2 : puts [] (Str.ofString "") ((some ([("dir", "dir", hid (.tree (held 4 R))), ("f", "file", z16), ("none", "dir", hE)] : List Ent)).getD []) = [(("f" : Str), (("file" : Str), z16))] := by
    rfl
  rw [e1, e2]
  refine Runs.step (by decide +kernel) (by show 1 ≤ 4000; decide) (by show 1 ≤ 4000; decide) (by show ([] : List (V × Option Str)).length ≤ 900; decide) ?_
  rw [ents_at he]
  exact hm
theorem runs_one {R : List Row} (hR : RG 4 R) (hl : R.length ≤ 80) (hin : ∀ t ∈ trees 4 R, valS ks (hid t) = some t) (hr : valS ks (hid (.tree (ents (oneL (hid (.tree (held 4 R))))))) = some (.tree (ents (oneL (hid (.tree (held 4 R)))))))
    (hbl : valS ks hb = some .blob) : ∃ F1 m, Runs ks m [(Str.ofString "", .str (hid (.tree (ents (oneL (hid (.tree (held 4 R))))))), some (hid (.tree (ents (oneL (hid (.tree (held 4 R))))))))] [] [] F1 [(.str hb, some hb)] := by
  obtain ⟨F1, h⟩ := run_root (f := ("r/" : Str)) (F := []) hR hl hin (by decide +kernel) .nil (by decide) (fun e he => by cases he)
  have hlen : F1.length ≤ 4000 := by
    have : F1.length ≤ (R.map (fun r => ((("r/" : Str) ++ jn r.1, r.2) : Str × (Str × Str)))).length := by
      have hn : F1.Nodup := nodup_of_keys h.nd
      exact sub_len hn fun x hx => by
        rcases (h.mem x).mp hx with z | ⟨r, hr, e⟩
        · cases z
        · exact List.mem_map.mpr ⟨r, hr, e.symm⟩
    rw [List.length_map] at this
    omega
  have last : Runs ks 1 [(("b/" : Str), .str hb, some hb)] F1 [] F1 [(.str hb, some hb)] := by
    refine Runs.step (st := []) (by decide +kernel) (by decide) hlen (by decide) ?_
    rw [ents_blob hbl]
    exact .done
  obtain ⟨m, hm⟩ := h.run [(("b/" : Str), .str hb, some hb)] [] F1 [(.str hb, some hb)] (by show 1 + 35 ≤ 3900; decide) (by decide) ⟨1, last⟩
  refine ⟨F1, m + 1, ?_⟩
  refine Runs.step (st := []) (by decide +kernel) (by decide) (by decide) (by decide) ?_
  rw [ents_at hr, ents_one]
  exact hm
theorem runs_two {m0 m1 : Str} (hr : valS ks (hid (.tree (ents (twoL m0 m1)))) = some (.tree (ents (twoL m0 m1)))) (hbl : valS ks hb = some .blob) (h0 : valS ks m0 = none) (h1 : valS ks m1 = none) :
    Runs ks 4 [(Str.ofString "", .str (hid (.tree (ents (twoL m0 m1)))), some (hid (.tree (ents (twoL m0 m1)))))] [] [] [] [(.str m0, some m0), (.str m1, some m1), (.str hb, some hb)] := by
  refine Runs.step (st := []) (by decide +kernel) (by decide) (by decide) (by decide) ?_
  rw [ents_at hr, ents_two]
  have e1 : ([] : List Ah) ++ pushes (Str.ofString "") ((some ([("b", "dir", hb), ("x", "dir", m1), ("y", "dir", m0)] : List Ent)).getD []) = [(("b/" : Str), .str hb, some hb), (("x/" : Str), .str m1, some m1)] ++ [(("y/" : Str), .str m0, some m0)] := by
    rfl
  rw [e1]
  refine Runs.step (by decide +kernel) (by show 2 ≤ 4000; decide) (by show 0 ≤ 4000; decide) (by show ([] : List (V × Option Str)).length ≤ 900; decide) ?_
  rw [ents_out h0]
  have e2 : ([(("b/" : Str), V.str hb, some hb), (("x/" : Str), .str m1, some m1)] : List Ah) ++ pushes ("y/" : Str) ((none : Option (List Ent)).getD []) = [(("b/" : Str), .str hb, some hb)] ++ [(("x/" : Str), .str m1, some m1)] := by
    rfl
  rw [e2]
  refine Runs.step (by decide +kernel) (by show 1 ≤ 4000; decide) (by show 0 ≤ 4000; decide) (by show 1 ≤ 900; decide) ?_
  rw [ents_out h1]
  have e3 : ([(("b/" : Str), V.str hb, some hb)] : List Ah) ++ pushes ("x/" : Str) ((none : Option (List Ent)).getD []) = [] ++ [(("b/" : Str), .str hb, some hb)] := by
    rfl
  rw [e3]
  refine Runs.step (by decide +kernel) (by show 0 ≤ 4000; decide) (by show 0 ≤ 4000; decide) (by show 2 ≤ 900; decide) ?_
  rw [ents_blob hbl]
  exact .done
end
/-! ### what is shown -/
theorem shown_pair {d : PyData} (h : d.shown.length ≤ 1000) : (PyData.tuple [.str "absent", d]).shown.length ≤ sizeLine := by
  have e : (PyData.tuple [.str "absent", d]).shown = ("(" : Str) ++ (reprText "absent" ++ ((", " : String) : Str) ++ d.shown) ++ ((")" : String) : Str) := by
    simp only [PyData.shown, PyData.shownAll]
    rfl
  rw [e, len_app, len_app, len_app, len_app]
  have h1 : ("(" : Str).length = 1 := by decide +kernel
  have h2 : (((")" : String) : Str)).length = 1 := by decide +kernel
  have h3 : (((", " : String) : Str)).length = 2 := by decide +kernel
  have h4 : (reprText "absent").length ≤ 100 := by decide +kernel
  exact line_of (by omega)
theorem shown_id {z : Str} (h : isIdS z = true) : (PyData.str z).shown.length ≤ 1000 := by
  have ha := asc_id h
  have := StrLaws.reprText_len z fun c hc => Nat.lt_trans (ha c hc) (by decide)
  rw [idLen h] at this
  simp only [PyData.shown]
  omega
/-- what files_of is asked for in the end -/
structure OddW (K : Frag) (H : Hp) (ks : List (Str × Th)) (y : V) (o : Option Str) (d : PyData) : Prop where
  odd : OddC H y o
  out : entsOf ks o = none
  has : hasB ks o = false
  dp : ∀ H', Same H H' → Dp K H' y d
  show_ : d.showable = true
  nod : d.hasDict = false
  depth : d.depth ≤ 20
  len : d.shown.length ≤ 1000
theorem absL_one {ks : List (Str × Th)} {y : V} {o : Option Str} (h : hasB ks o = false) : absL ks [y] [o] = [y] := by simp [absL, h]
end FK

/-! Forkhaul k08: _law_hand_right. -/
namespace FK
open PySem PySem.Spec PyProof.Rows L2 TL
open PySem.W (Frag)
theorem paired_app {α β : Type} {F : α → β → Prop} {l' : List α} {m' : List β} (h' : Paired F l' m') : ∀ {l : List α} {m : List β}, Paired F l m → Paired F (l ++ l') (m ++ m')
  | _, _, .nil => h'
  | _, _, .cons h r => .cons h (paired_app h' r)
/-! ### making by hand -/
section
variable {K : Frag} {H : Hp} {d x dx : Addr} {Qv : VK}
theorem fresh2 (hx : H x = none) (hdx : H dx = none) (hne : dx ≠ x) (o1 o2 : HO) : Same H (upd (upd H dx o1) x o2) := (Same.new hdx).trans (Same.new (by rw [upd_ne hne.symm]; exact hx))
theorem mk_tree {kvs : List (Key × V)} {l : List (Str × Str × Str)} (hd : H d = some (.dK kvs)) (dr : DR (PairAt H) kvs l) (n : (l.map (·.1)).Nodup) (e : ∀ e ∈ l, EntOk e) (hl : l.length ≤ 30) (hx : H x = none) (hdx : H dx = none) (hne : dx ≠ x)
    (k : ∀ H', Same H H' → TreeAt K H' x (ents l) → Qv .non H') : spTInit K [.ref x, .ref d] (upd (upd H dx (.own x)) x (.ins (ca K "Tree") dx [])) Qv E0 := by
  have s := fresh2 hx hdx hne (.own x) (.ins (ca K "Tree") dx [])
  refine ⟨x, d, dx, kvs, l, rfl, upd_same, s _ _ hd, dr.imp fun v p q => q.same s, n, e, by omega, fun h => absurd hl (by omega), fun _ H' t rs k1 k2 k3 k4 => k H' (fun b o q => ?_) ⟨dx, t, rs, k2, k3, k4⟩⟩
  exact k1 b o (ne_of_none q hx) (s _ _ q)
theorem mk_blob (hx : H x = none) (hdx : H dx = none) (hne : dx ≠ x) (k : ∀ H', Same H H' → BlobAt K H' x → Qv .non H') : spBInit K [.ref x, .str "x"] (upd (upd H dx (.own x)) x (.ins (ca K "Blob") dx [])) Qv E0 := by
  have s := fresh2 hx hdx hne (.own x) (.ins (ca K "Blob") dx [])
  exact ⟨x, dx, rfl, upd_same, fun H' k1 k2 => k H' (fun b o q => k1 b o (ne_of_none q hx) (s _ _ q)) ⟨dx, k2⟩⟩
end
theorem oddS {H : Hp} {z : Str} (h : z.length ≤ 4000) : OddC H (.str z) (some z) := ⟨rfl, h⟩
/-! ### what _law_read tells -/
section
variable {K : Frag} {H : Hp} {a kd : Addr} {ks : List (Str × Th)} {v : V} {o : Option Str} {n : Nat} {F : Fls} {Q : VK} {E : XK}
theorem lread_told (hst : StAt K H a kd ks) (hv : OddC H v o) (hg : KsGood ks) (hr : Runs ks n [(Str.ofString "", v, o)] [] [] F []) (k : ∀ H' d q, Same H H' → FdAt H' d (ents F) → H' q = some (.tup [.str "told", .ref d]) → Q (.ref q) H') : spLRead K [.ref a, v] H Q E :=
  ⟨a, v, rfl, a, kd, ks, v, o, n, F, [], rfl, hst, hv, hg, hr, .inl ⟨rfl, fun H' d s hd hf q hq => k _ _ _ (s.new' hq) (hf.same (Same.new hq)) upd_same⟩⟩
theorem lread_other {W : List (V × Option Str)} (hst : StAt K H a kd ks) (hv : OddC H v o) (hg : KsGood ks) (hr : Runs ks n [(Str.ofString "", v, o)] [] [] F W) (hW : W ≠ []) (ha : absL ks (W.map (·.1)) (W.map (·.2)) = [])
    (k : ∀ H' q, Same H H' → H' q = some (.tup [.str "other", .int 0]) → Q (.ref q) H') : spLRead K [.ref a, v] H Q E :=
  ⟨a, v, rfl, a, kd, ks, v, o, n, F, W, rfl, hst, hv, hg, hr, .inr (.inl ⟨hW, ha, fun H' dd s hdd => ⟨dd, rfl, .inr ⟨rfl, hdd, fun q hq => k _ _ (s.new' hq) upd_same⟩⟩⟩)⟩
theorem lread_absent1 {W : List (V × Option Str)} {u : V} (hst : StAt K H a kd ks) (hv : OddC H v o) (hg : KsGood ks) (hr : Runs ks n [(Str.ofString "", v, o)] [] [] F W) (hW : W ≠ []) (ha : absL ks (W.map (·.1)) (W.map (·.2)) = [u])
    (k : ∀ H' q, Same H H' → H' q = some (.tup [.str "absent", u]) → Q (.ref q) H') : spLRead K [.ref a, v] H Q E :=
  ⟨a, v, rfl, a, kd, ks, v, o, n, F, W, rfl, hst, hv, hg, hr, .inr (.inr (.inl ⟨u, hW, ha, fun H' dd s hdd => ⟨dd, rfl, .inl ⟨rfl, u, hdd, fun q hq => k _ _ (s.new' hq) upd_same⟩⟩⟩))⟩
theorem lread_absent2 {W : List (V × Option Str)} {x y : Str} {r : List Str} (hst : StAt K H a kd ks) (hv : OddC H v o) (hg : KsGood ks) (hr : Runs ks n [(Str.ofString "", v, o)] [] [] F W) (hW : W ≠ []) (ha : absL ks (W.map (·.1)) (W.map (·.2)) = ((x :: y :: r).map V.str))
    (hm : ∀ z ∈ y :: r, leS x z = true) (k : ∀ H' q, Same H H' → H' q = some (.tup [.str "absent", .str x]) → Q (.ref q) H') : spLRead K [.ref a, v] H Q E :=
  ⟨a, v, rfl, a, kd, ks, v, o, n, F, W, rfl, hst, hv, hg, hr, .inr (.inr (.inr ⟨x, y, r, hW, ha, hm, fun H' dd s hdd => ⟨dd, rfl, .inl ⟨rfl, .str x, hdd, fun q hq => k _ _ (s.new' hq) upd_same⟩⟩⟩))⟩
end
section
variable {P : Program} {w : World} {K : Frag} {mg : Str → Option Value} {base : Heap}
def spHand (K : Frag) : Sp := fun vs H Q _ => ∃ (wa a kd la : Addr) (c : Int) (ks : List (Str × Th)) (vs0 : List V) (R : List Row), vs = [.ref wa, .ref a, .str (hid (.tree (held 4 R))), .ref la] ∧ WellAt H wa c ∧ 0 ≤ c ∧ c ≤ 800000000 ∧ StAt K H a kd ks ∧ ks.length ≤ 4000 ∧
  H la = some (.lst vs0) ∧ la ≠ wa ∧ Paired (ThV K H) vs0 (trees 4 R) ∧ (∀ t ∈ trees 4 R, ThGood t) ∧ (trees 4 R).length ≤ 3500 ∧ KsOk (· ∈ trees 4 R) ks ∧ RG 4 R ∧ R.length ≤ 80 ∧ (∀ t ∈ trees 4 R, valS ks (hid t) = some t) ∧
  ∀ H', But2 wa kd H H' → Q (.bl true) H'
abbrev nHand : List Str := ["_law_well_here", "_law_store", "_law_root", "_law_things", "_law_rows", "_law_lost", "_law_one", "_law_two", "_law_empty", "_law_blob", "_law_name", "_law_due", "_law_told", "_law_wanted", "_law_wrong", "_law_more", "_law_odd", "_law_path_here", "_law_value"]
theorem scHand : FnScope nHand ["_law_well_here", "_law_store", "_law_root", "_law_things"] (defScope sHand) := ⟨rfl, rfl, rfl, by decide +kernel, rfl, by decide +kernel, by decide +kernel⟩
theorem ok_hand (F : GF K mg "_law_hand_right" sHand) (GT : CalF P w K mg base (L2.CX P w) 4 (mAt K (ca K "Tree") "__init__") ["self", "entries"] (spTInit K)) (GB : CalF P w K mg base CX0 2 (mAt K (ca K "Blob") "__init__") ["self", "text"] (spBInit K))
    (GI : Cal P w K mg base CX0 5 "id_of" ["thing", "short"] (spId K) [.bl false]) (GL : Cal P w K mg base CX0 3 "_law_id" ["_law_well_here"] spLid) (GC : Cal P w K mg base CX0 6 "_law_clash" ["_law_things"] (spLClash K))
    (GS : CalF P w K mg base CX0 6 (mAt K (ca K "Store") "put") ["self", "thing"] (spSPut K)) (mS : Meth K (ca K "Store") "put" (mAt K (ca K "Store") "put")) (GFo : CalF P w K mg base (L2.CX P w) 6 (mAt K (ca K "Store") "files_of") ["self", "name"] (spFiles K)) (mF : Meth K (ca K "Store") "files_of" (mAt K (ca K "Store") "files_of"))
    (GR : Cal P w K mg base CX0 7 "_law_read" ["_law_store", "_law_name"] (spLRead K)) (GP : Cal P w K mg base CX0 2 "_law_pick" ["_law_well_here", "_law_some"] spPick)
    (GH : CalF P w K mg base CX0 1 (mAt K (ca K "Store") "__contains__") ["self", "name"] (spHas K)) (O : OwnHas K (mAt K (ca K "Store") "__contains__") (mAt K (ca K "Store") "__getitem__")) (T : Kit K mg) :
    CalG P w K mg base 8 "_law_hand_right" ["_law_well_here", "_law_store", "_law_root", "_law_things"] (spHand K) := by
  refine calG0 F scHand (fun _ _ _ _ _ _ us hl => match us, hl with | [_, _, _, _], _ => rfl) (fun vs H Q E h => ?_) (fun cdv A outer s H vs Q hgd hr h => ?_)
  · obtain ⟨wa, a, kd, la, c, ks, vs0, R, rfl, _⟩ := h
    rfl
  · obtain ⟨wa, a, kd, la, c, ks, vs0, R, rfl, hw, hc0, hc, hst, hkl, hla, nlw, hvs, hgt, htl, hok, hRG, hRl, hin, kQ⟩ := h
    have B := T.fr
    obtain ⟨fdH, FH, BH⟩ := calf_nil GH
    refine ⟨_, (pss_cons (ps_set (i := 4) scHand.nd rfl (Or.inl rfl) (pe_disp (pps_cons pe_str (pe_tup (pa_cons pe_str (pa_cons (pv 2) pa_nil))) (pps_cons pe_str (pe_tup (pa_cons pe_str (pa_cons (pcal (GI.mono (by decide : 5 ≤ 7)) hr (by rfl) pass0 (pa_cons (pmake (E := E0) GT T.mkT (hr.mono (by decide : 5 ≤ 7)) (by rfl) T.gT passF (pa_cons pe_dnewK pa_nil)) pa_nil)) pa_nil))) (pps_cons pe_str (pe_tup (pa_cons pe_str (pa_cons (pe_op op_mulS pe_str pe_int) pa_nil))) pps_nil))) (by rfl) (by rfl) (fun z => by cases z) (by decide)))
        (pss_cons (ps_set (i := 5) scHand.nd rfl (Or.inl rfl) (pe_callB (cr_sortedSA) (by rfl) B.sorted (by decide +kernel) (pa_cons (pe_lst (pa_cons (pcal (GL.mono (by decide : 3 ≤ 7)) hr (by rfl) pass0 (pa_cons (pv 0) pa_nil)) (pa_cons (pcal (GL.mono (by decide : 3 ≤ 7)) hr (by rfl) pass0 (pa_cons (pv 0) pa_nil)) pa_nil))) pa_nil)))
        (pss_cons (ps_set (i := 6) scHand.nd rfl (Or.inl rfl) (pmake (E := E0) GT T.mkT (hr.mono (by decide : 5 ≤ 7)) (by rfl) T.gT passF (pa_cons (pe_disp (pps_cons pe_str (pe_tup (pa_cons pe_str (pa_cons (pcal (GI.mono (by decide : 5 ≤ 7)) hr (by rfl) pass0 (pa_cons (pmake (E := E0) GB T.mkB (hr.mono (by decide : 3 ≤ 7)) (by rfl) T.gB pass0 (pa_cons pe_str pa_nil)) pa_nil)) pa_nil))) (pps_cons pe_str (pe_tup (pa_cons pe_str (pa_cons (pv 2) pa_nil))) pps_nil)) (by rfl) (by rfl) (fun z => by cases z) (by decide)) pa_nil)))
        (pss_cons (ps_set (i := 7) scHand.nd rfl (Or.inl rfl) (pmake (E := E0) GT T.mkT (hr.mono (by decide : 5 ≤ 7)) (by rfl) T.gT passF (pa_cons (pe_disp (pps_cons pe_str (pe_tup (pa_cons pe_str (pa_cons (pe_ix ix_list (pv 5) pe_int (by intro _ _; rfl)) pa_nil))) (pps_cons pe_str (pe_tup (pa_cons pe_str (pa_cons (pcal (GI.mono (by decide : 5 ≤ 7)) hr (by rfl) pass0 (pa_cons (pmake (E := E0) GB T.mkB (hr.mono (by decide : 3 ≤ 7)) (by rfl) T.gB pass0 (pa_cons pe_str pa_nil)) pa_nil)) pa_nil))) (pps_cons pe_str (pe_tup (pa_cons pe_str (pa_cons (pe_ix ix_list (pv 5) pe_int (by intro _ _; rfl)) pa_nil))) pps_nil))) (by rfl) (by rfl) (fun z => by cases z) (by decide)) pa_nil)))
        (pss_cons (ps_if (PW.pt (pw_or (pt_val (pcal (GC.mono (by decide : 6 ≤ 7)) hr (by rfl) pass0 (pa_cons (pe_op op_cat (pv 3) (pe_lst (pa_cons (pmake (E := E0) GT T.mkT (hr.mono (by decide : 5 ≤ 7)) (by rfl) T.gT passF (pa_cons pe_dnewK pa_nil)) (pa_cons (pmake (E := E0) GB T.mkB (hr.mono (by decide : 3 ≤ 7)) (by rfl) T.gB pass0 (pa_cons pe_str pa_nil)) (pa_cons (pmake (E := E0) GT T.mkT (hr.mono (by decide : 5 ≤ 7)) (by rfl) T.gT passF (pa_cons (pv 4) pa_nil)) (pa_cons (pv 6) (pa_cons (pv 7) pa_nil))))))) pa_nil))) (pw_or (pt_cmpR op_in_seq (pcal (GI.mono (by decide : 5 ≤ 7)) hr (by rfl) pass0 (pa_cons (pv 6) pa_nil)) (pv 5) rfl) (pw_or1 (pt_cmpR op_in_seq (pcal (GI.mono (by decide : 5 ≤ 7)) hr (by rfl) pass0 (pa_cons (pv 7) pa_nil)) (pv 5) rfl))))) (pss_one (ps_ret pe_bl)) pss_nil)
        (pss_cons (ps_set (i := 8) scHand.nd rfl (Or.inl rfl) (pmeth (E := E0) (GS.mono (by decide : 6 ≤ 7)) (pv 1) T.cS mS hr pass0 (pa_cons (pmake (E := E0) GT T.mkT (hr.mono (by decide : 5 ≤ 7)) (by rfl) T.gT passF (pa_cons pe_dnewK pa_nil)) pa_nil)))
        (pss_cons (ps_set (i := 9) scHand.nd rfl (Or.inl rfl) (pmeth (E := E0) (GS.mono (by decide : 6 ≤ 7)) (pv 1) T.cS mS hr pass0 (pa_cons (pmake (E := E0) GB T.mkB (hr.mono (by decide : 3 ≤ 7)) (by rfl) T.gB pass0 (pa_cons pe_str pa_nil)) pa_nil)))
        (pss_cons (ps_if (pt_cmpR op_ne (pe_ix ix_tup (pe_dget (hu_of hr) (pv 4) pe_str (by intro _ _; rfl)) pe_int (by intro _ _; rfl)) (pv 8) (nomark _)) (pss_one (ps_ret pe_bl)) pss_nil)
        (pss_cons (ps_set (i := 10) scHand.nd rfl (Or.inl rfl) (pmeth (E := E0) (GS.mono (by decide : 6 ≤ 7)) (pv 1) T.cS mS hr pass0 (pa_cons (pmake (E := E0) GT T.mkT (hr.mono (by decide : 5 ≤ 7)) (by rfl) T.gT passF (pa_cons (pv 4) pa_nil)) pa_nil)))
        (pss_cons (ps_set (i := 11) scHand.nd rfl (Or.inr rfl) (pe_callTy (call_dictP rfl) (by rfl) B.dict (by decide +kernel) (pa_cons (pe_lc (own := [("_law_path_here", 17), ("_law_value", 18)]) (g := (gTup K 2 (gCons (gName 17) (gCons (gName 18) gNil)))) (tt := tYes) rfl scHand.nd (pi_items (pe_frz (pmeth (E := E0) (GFo.mono (by decide : 6 ≤ 7)) (pv 1) T.cS mF hr passF (pa_cons (pv 2) pa_nil)))) (blkOk_by (N := nHand) (sc := defScope sHand) (by decide +kernel)) (fun _ _ _ _ _ => (pg_tup rfl (pgs_cons (pg_name (i := 17) scHand.nd rfl (Or.inl rfl)) (pgs_cons (pg_name (i := 18) scHand.nd rfl (Or.inl rfl)) pgs_nil)))) (fun _ _ _ _ _ => pts_nil) (fun _ _ _ _ _ => (pe_tup (pa_cons (pe_op op_add_str pe_str (pv 17)) (pa_cons (pv 18) pa_nil))))) pa_nil)))
        (pss_cons (ps_dput (hu_of hr) (pv 11) pe_str (pe_tup (pa_cons pe_str (pa_cons (pe_op op_mulS pe_str pe_int) pa_nil))) (by rfl))
        (pss_cons (ps_set (i := 12) scHand.nd rfl (Or.inl rfl) (pcal GR hr (by rfl) pass0 (pa_cons (pv 1) (pa_cons (pv 10) pa_nil))))
        (pss_cons (ps_setLc (i := 13) (own := [("_law_path_here", 17)]) (g := gName 17) (tt := tYes) rfl scHand.nd rfl rfl (sw_true rfl rfl rfl rfl) (pi_list (pe_callB (call_sortedDA rfl) (by rfl) B.sorted (by decide +kernel) (pa_cons (pv 11) pa_nil))) (blkOk_by (N := nHand) (sc := defScope sHand) (by decide +kernel)) (fun _ _ _ _ _ => (pg_name (i := 17) scHand.nd rfl (Or.inl rfl))) (fun _ _ _ _ _ => pts_nil) (fun _ _ _ _ _ => (pe_tup (pa_cons (pv 17) (pa_cons (pe_dget (hu_of hr) (pv 11) (pv 17) (by intro _ _; rfl)) pa_nil)))))
        (pss_cons (ps_if (PW.pt (pw_or (pt_cmpR op_ne (pe_ix ix_tup (pv 12) pe_int (by intro _ _; rfl)) pe_str (nomark _)) (pw_or1 (pt_cmpR (op_neD hr.units) (LiI.pe_listItems rfl (pe_ix ix_tup (pv 12) pe_int (by intro _ _; rfl)) (by rfl) B.list (by decide +kernel)) (pv 13) (nomark _))))) (pss_one (ps_ret pe_bl)) pss_nil)
        (pss_cons (ps_if (PW.pt (pw_or (pt_cmpR (op_inOwn FH BH pass0 (hr.mono (by decide : 1 ≤ 7)) O.has O.hasF) (pe_ix ix_list (pv 5) pe_int (by intro _ _; rfl)) (pv 1) rfl) (pw_or1 (pt_cmpR (op_inOwn FH BH pass0 (hr.mono (by decide : 1 ≤ 7)) O.has O.hasF) (pe_ix ix_list (pv 5) pe_int (by intro _ _; rfl)) (pv 1) rfl)))) (pss_one (ps_ret pe_bl)) pss_nil)
        (pss_cons (ps_par (i := 14) (j := 15) rfl scHand.nd rfl rfl (by decide) rfl rfl (pa_cons (pmeth (E := E0) (GS.mono (by decide : 6 ≤ 7)) (pv 1) T.cS mS hr pass0 (pa_cons (pv 6) pa_nil)) (pa_cons (pmeth (E := E0) (GS.mono (by decide : 6 ≤ 7)) (pv 1) T.cS mS hr pass0 (pa_cons (pv 7) pa_nil)) pa_nil)) (by rfl))
        (pss_cons (ps_if (PW.pt (pw_or (pt_cmpR (op_neD hr.units) (pcal GR hr (by rfl) pass0 (pa_cons (pv 1) (pa_cons (pv 14) pa_nil))) (pe_tup (pa_cons pe_str (pa_cons pe_int pa_nil))) (nomark _)) (pw_or1 (pt_cmpR (op_neD hr.units) (pcal GR hr (by rfl) pass0 (pa_cons (pv 1) (pa_cons (pv 15) pa_nil))) (pe_tup (pa_cons pe_str (pa_cons (pe_ix ix_list (pv 5) pe_int (by intro _ _; rfl)) pa_nil))) (nomark _))))) (pss_one (ps_ret pe_bl)) pss_nil)
        (pss_cons (ps_set (i := 16) scHand.nd rfl (Or.inl rfl) (pcal (GP.mono (by decide : 2 ≤ 7)) hr (by rfl) pass0 (pa_cons (pv 0) (pa_cons (pe_lst (pa_cons (pe_ix ix_list (pv 5) pe_int (by intro _ _; rfl)) (pa_cons (pe_op op_mulS pe_str pe_int) (pa_cons pe_non (pa_cons (pe_tup (pa_cons pe_int (pa_cons pe_int pa_nil))) (pa_cons (pe_lst pa_nil) pa_nil)))))) pa_nil))))
        (pss_one (ps_ret (pe_and (pe_cmpR (op_eqD hr.units) (pcal GR hr (by rfl) pass0 (pa_cons (pv 1) (pa_cons (pv 9) pa_nil))) (pe_tup (pa_cons pe_str (pa_cons pe_int pa_nil))) (nomark _)) (pe_one (pe_cmpR op_eq (pe_callB (call_reprD hgd hr.units) (by rfl) B.repr (by decide +kernel) (pa_cons (pcal GR hr (by rfl) pass0 (pa_cons (pv 1) (pa_cons (pv 16) pa_nil))) pa_nil)) (pe_callB (call_reprD hgd hr.units) (by rfl) B.repr (by decide +kernel) (pa_cons (pe_tup (pa_cons pe_str (pa_cons (pv 16) pa_nil))) pa_nil)) (nomark _)))))))))))))))))))))))), ?_⟩
    have hid0 : isIdS (hid (.tree (held 4 R))) = true := hid_id _
    generalize hroot : hid (.tree (held 4 R)) = root at *
    -- rows
    intro rd hrd
    obtain ⟨sr, er⟩ := new_at (.dK []) hrd
    refine ⟨_, rfl, (by show 2 ≤ sizeLine; exact line_of (by decide)), fun A1 hA1 => ?_⟩
    obtain ⟨sA1, eA1⟩ := new_at (.tup [.str "dir", .str root]) hA1
    refine fun e1 he1 x1 dx1 hx1 hdx1 hne1 => ?_
    obtain ⟨se1, ee1⟩ := new_at (.dK []) he1
    refine mk_tree (l := []) ee1 .nil .nil (fun e h => by cases h) (by decide) hx1 hdx1 hne1 fun H2 s2 t2 => ⟨rfl, ?_⟩
    rw [ents_emp] at t2
    refine ⟨x1, .tree [], rfl, t2, good_emp, fun H3 s3 => ⟨(by show 2 ≤ sizeLine; exact line_of (by decide)), fun A2 hA2 => ?_⟩⟩
    obtain ⟨sA2, eA2⟩ := new_at (.tup [.str "dir", .str (hid (.tree []))]) hA2
    refine ⟨48, 16, (by decide +kernel), rfl, (by decide), (by decide), ⟨(by show 2 ≤ sizeLine; exact line_of (by decide)), fun A3 hA3 => ?_⟩⟩
    obtain ⟨sA3, eA3⟩ := new_at (.tup [.str "file", .str ⟨(List.replicate 16 #[48]).foldl (· ++ ·) #[]⟩]) hA3
    have sA : Same (upd H rd (.dK [])) _ := sA1.trans (se1.trans (s2.trans (s3.trans (sA2.trans sA3))))
    have er4 := sA _ _ er
    refine ⟨er4, [(.inr "dir", .ref A1), (.inr "none", .ref A2), (.inr "f", .ref A3)], rfl, (by show 3 ≤ 15; decide), ?_⟩
    have eA14 := sA3 _ _ (sA2 _ _ (s3 _ _ (s2 _ _ (se1 _ _ eA1))))
    have eA24 := sA3 _ _ eA2
    have dr4 := merge_dr (bkv := [(.inr "dir", .ref A1), (.inr "none", .ref A2), (.inr "f", .ref A3)]) (fs := rowL root) (ok_row hid0).1 (.cons ⟨rfl, A1, rfl, eA14⟩ (.cons ⟨rfl, A2, rfl, eA24⟩ (.cons ⟨rfl, A3, rfl, eA3⟩ .nil)))
    have s04 : Same H _ := sr.trans sA
    clear hA3 sA3 eA3 sA2 eA2 hA2 s3 t2 s2 ee1 se1 hne1 hdx1 hx1 he1 eA1 sA1 hA1 eA14 eA24
    generalize upd (upd H3 A2 _) A3 _ = H4 at *
    generalize mergeK [] [((.inr "dir" : Key), V.ref A1), (.inr "none", .ref A2), (.inr "f", .ref A3)] = rkv at *
    have s05 := s04.mut (o := .dK rkv) hrd
    have er5 : (upd H4 rd (.dK rkv)) rd = some (.dK rkv) := upd_same
    have dr5 : DR (PairAt (upd H4 rd (.dK rkv))) rkv (rowL root) := dr4.imp fun v p q => PairAt.mut (u := .dK []) q er4 (by intro _ z; cases z)
    clear s04 dr4 er4 sA er sr
    generalize upd H4 rd (.dK rkv) = H5 at *
    -- lost
    obtain ⟨wl0, hwl⟩ := hw.lst
    have hwl5 := s05 _ _ hwl
    have nrw : rd ≠ wa := ne_of_none' hrd hwl
    refine ⟨_, rfl, wa, c, rfl, hw.same s05, hc0, by omega, fun H6 z0 b56 hw6 hz0 => ⟨_, rfl, wa, c + 17, rfl, hw6, by omega, by omega, fun H7 z1 b67 hw7 hz1 => ⟨(by show 2 ≤ sizeLine; exact line_of (by decide)), fun LL hLL => ?_⟩⟩⟩
    obtain ⟨sLL, eLL⟩ := new_at (.lst [.str z0, .str z1]) hLL
    refine ⟨LL, [z0, z1], rfl, SqL.of eLL, (by show 2 ≤ 100000; decide), fun ys LA hp hso hLA => ?_⟩
    obtain rfl := srt_unique hp hso
    obtain ⟨sLA, eLA⟩ := new_at (.lst ((srt [z0, z1]).map V.str)) hLA
    obtain ⟨m0, m1, hm01⟩ : ∃ m0 m1, srt [z0, z1] = [m0, m1] := by
      have hl2 := srt_len [z0, z1]
      match h : srt [z0, z1], hl2 with
      | [m0, m1], _ => exact ⟨m0, m1, rfl⟩
    have hm : ∀ z ∈ [m0, m1], isIdS z = true := fun z hz => by
      rw [← hm01, srt_mem] at hz
      rcases List.mem_cons.mp hz with rfl | hz
      · exact hz0
      · rw [List.mem_singleton.mp hz]; exact hz1
    have hle : leS m0 m1 = true := by
      have := srt_pw [z0, z1]
      rw [hm01] at this
      exact (List.pairwise_cons.mp this).1 m1 List.mem_cons_self
    rw [hm01] at eLA sLA ⊢
    have hi0 := hm m0 List.mem_cons_self
    have hi1 := hm m1 (by simp)
    have b58 : But wa H5 (upd (upd H7 LL (.lst [.str z0, .str z1])) LA (.lst ([m0, m1].map V.str))) := fun y o n q => sLA _ _ (sLL _ _ (b67 _ _ n (b56 _ _ n q)))
    have hw8 := (hw7.same sLL).same sLA
    have nLAw : LA ≠ wa := by
      obtain ⟨wl7, hwl7⟩ := hw7.lst
      exact ne_of_none' hLA (sLL _ _ hwl7)
    clear sLA sLL eLL
    generalize upd (upd H7 LL _) LA _ = H8 at *
    have b08 : But wa H H8 := fun y o n q => b58 _ _ n (s05 _ _ q)
    have er8 := b58 _ _ nrw er5
    have dr8 : DR (PairAt H8) rkv (rowL root) := dr5.imp fun v p q => q.butO hwl5 (by intro _ z; cases z) b58
    have hst8 : StAt K H8 a kd ks := StAt.butL hwl b08 hst
    have hla8 := b08 _ _ nlw hla
    have hvs8 : Paired (ThV K H8) vs0 (trees 4 R) := L2.Paired.mapP hvs fun _ _ ⟨x, e, t⟩ => ⟨x, e, ThAt.butL hwl b08 t⟩
    clear b58 er5 dr5 hw6 hw7 b56 b67
    -- one
    intro od hod
    obtain ⟨so, eo⟩ := new_at (.dK []) hod
    intro x2 dx2 hx2 hdx2 hne2
    refine mk_blob hx2 hdx2 hne2 fun H9 s9 t9 => ⟨rfl, ?_⟩
    refine ⟨x2, .blob, rfl, t9, trivial, fun H10 s10 => ⟨(by show 2 ≤ sizeLine; exact line_of (by decide)), fun B1 hB1 => ?_⟩⟩
    obtain ⟨sB1, eB1⟩ := new_at (.tup [.str "dir", .str (hid .blob)]) hB1
    refine ⟨_, rfl, (by show 2 ≤ sizeLine; exact line_of (by decide)), fun B2 hB2 => ?_⟩
    obtain ⟨sB2, eB2⟩ := new_at (.tup [.str "dir", .str root]) hB2
    have sB : Same (upd H8 od (.dK [])) _ := s9.trans (s10.trans (sB1.trans sB2))
    have eo1 := sB _ _ eo
    refine ⟨eo1, [(.inr "b", .ref B1), (.inr "r", .ref B2)], rfl, (by show 2 ≤ 15; decide), ?_⟩
    have dro := merge_dr (bkv := [(.inr "b", .ref B1), (.inr "r", .ref B2)]) (fs := oneL root) (ok_one hid0).1 (.cons ⟨rfl, B1, rfl, sB2 _ _ eB1⟩ (.cons ⟨rfl, B2, rfl, eB2⟩ .nil))
    generalize mergeK [] [((.inr "b" : Key), V.ref B1), (.inr "r", .ref B2)] = okv at *
    have s8o := (so.trans sB).mut (o := .dK okv) hod
    have eo2 : (upd (upd (upd H10 B1 (.tup [.str "dir", .str (hid .blob)])) B2 (.tup [.str "dir", .str root])) od (.dK okv)) od = some (.dK okv) := upd_same
    have dro2 : DR (PairAt (upd (upd (upd H10 B1 (.tup [.str "dir", .str (hid .blob)])) B2 (.tup [.str "dir", .str root])) od (.dK okv))) okv (oneL root) := dro.imp fun v p q => PairAt.mut (u := .dK []) q eo1 (by intro _ z; cases z)
    clear dro eo1 sB sB1 sB2 eB1 eB2 hB2 hB1 s10 t9 s9 hne2 hdx2 hx2 so eo
    generalize upd (upd (upd H10 B1 _) B2 _) od _ = H11 at *
    intro xo dxo hxo hdxo hneo
    refine mk_tree eo2 dro2 (ok_one hid0).1 (ok_one hid0).2 (by show 2 ≤ 30; decide) hxo hdxo hneo fun H12 s12 tOne => ⟨rfl, ?_⟩
    have s8a := s8o.trans s12
    clear hneo hdxo hxo s12 dro2 eo2 s8o
    -- two
    intro wd hwd
    obtain ⟨sw, ew⟩ := new_at (.dK []) hwd
    have eLA13 := sw _ _ (s8a _ _ eLA)
    refine ⟨_, rfl, LA, _, _, _, rfl, rfl, SqL.of eLA13, rfl, (by show 2 ≤ sizeLine; exact line_of (by decide)), fun C1 hC1 => ?_⟩
    obtain ⟨sC1, eC1⟩ := new_at (.tup [.str "dir", .str m1]) hC1
    intro x3 dx3 hx3 hdx3 hne3
    refine mk_blob hx3 hdx3 hne3 fun H13 s13 t13 => ⟨rfl, ?_⟩
    refine ⟨x3, .blob, rfl, t13, trivial, fun H14 s14 => ⟨(by show 2 ≤ sizeLine; exact line_of (by decide)), fun C2 hC2 => ?_⟩⟩
    obtain ⟨sC2, eC2⟩ := new_at (.tup [.str "dir", .str (hid .blob)]) hC2
    refine ⟨_, rfl, LA, _, _, _, rfl, rfl, SqL.of (sC2 _ _ (s14 _ _ (s13 _ _ (sC1 _ _ eLA13)))), rfl, (by show 2 ≤ sizeLine; exact line_of (by decide)), fun C3 hC3 => ?_⟩
    obtain ⟨sC3, eC3⟩ := new_at (.tup [.str "dir", .str m0]) hC3
    have sC : Same (upd H12 wd (.dK [])) _ := sC1.trans (s13.trans (s14.trans (sC2.trans sC3)))
    have ew1 := sC _ _ ew
    refine ⟨ew1, [(.inr "x", .ref C1), (.inr "b", .ref C2), (.inr "y", .ref C3)], rfl, (by show 3 ≤ 15; decide), ?_⟩
    have drw := merge_dr (bkv := [(.inr "x", .ref C1), (.inr "b", .ref C2), (.inr "y", .ref C3)]) (fs := twoL m0 m1) (ok_two hi0 hi1).1 (.cons ⟨rfl, C1, rfl, sC3 _ _ (sC2 _ _ (s14 _ _ (s13 _ _ eC1)))⟩ (.cons ⟨rfl, C2, rfl, sC3 _ _ eC2⟩ (.cons ⟨rfl, C3, rfl, eC3⟩ .nil)))
    generalize mergeK [] [((.inr "x" : Key), V.ref C1), (.inr "b", .ref C2), (.inr "y", .ref C3)] = wkv at *
    have s8w := ((s8a.trans sw).trans sC).mut (o := .dK wkv) (s8a.free hwd)
    have s12w := (sw.trans sC).mut (o := .dK wkv) hwd
    have ew2 : (upd (upd (upd H14 C2 (.tup [.str "dir", .str (hid .blob)])) C3 (.tup [.str "dir", .str m0])) wd (.dK wkv)) wd = some (.dK wkv) := upd_same
    have drw2 : DR (PairAt (upd (upd (upd H14 C2 (.tup [.str "dir", .str (hid .blob)])) C3 (.tup [.str "dir", .str m0])) wd (.dK wkv))) wkv (twoL m0 m1) := drw.imp fun v p q => PairAt.mut (u := .dK []) q ew1 (by intro _ z; cases z)
    have tOne2 := ThAt.same (K := K) s12w (t := .tree (ents (oneL root))) tOne
    clear drw ew1 sC sC1 sC2 sC3 eC1 eC2 eC3 hC1 hC2 hC3 s14 t13 s13 hne3 hdx3 hx3 sw ew eLA13 hwd tOne s12w s8a
    generalize upd (upd (upd H14 C2 _) C3 _) wd _ = H15 at *
    intro xw dxw hxw hdxw hnew
    refine mk_tree ew2 drw2 (ok_two hi0 hi1).1 (ok_two hi0 hi1).2 (by show 3 ≤ 30; decide) hxw hdxw hnew fun H16 s16 tTwo => ⟨rfl, ?_⟩
    have tOne := ThAt.same (K := K) s16 tOne2
    have s8b := s8w.trans s16
    clear hnew hdxw hxw s16 drw2 ew2 s8w tOne2
    have b8b : But wa H H16 := fun y o n q => s8b _ _ (b08 _ _ n q)
    have hret : ∀ H', Same H16 H' → Q (.bl true) H' := fun H' s => kQ H' fun y o n _ q => s _ _ (b8b _ _ n q)
    -- clash
    refine ⟨_, rfl, ?_⟩
    intro e3 he3 x4 dx4 hx4 hdx4 hne4
    obtain ⟨se3, ee3⟩ := new_at (.dK []) he3
    refine mk_tree (l := []) ee3 .nil .nil (fun e h => by cases h) (by decide) hx4 hdx4 hne4 fun H17 s17 tE => ⟨rfl, ?_⟩
    rw [ents_emp] at tE
    intro x5 dx5 hx5 hdx5 hne5
    refine mk_blob hx5 hdx5 hne5 fun H18 s18 tB => ⟨rfl, ?_⟩
    have s8c := s8b.trans (se3.trans (s17.trans s18))
    refine ⟨_, rfl, ?_⟩
    intro x6 dx6 hx6 hdx6 hne6
    refine mk_tree (s8c _ _ er8) (dr8.imp fun v p q => q.same s8c) (ok_row hid0).1 (ok_row hid0).2 (by show 3 ≤ 30; decide) hx6 hdx6 hne6 fun H19 s19 tR => ⟨rfl, ?_⟩
    refine ⟨_, rfl, _, rfl, (by show 5 ≤ sizeLine; exact line_of (by decide)), fun LB hLB => ?_⟩
    obtain ⟨sLB, eLB⟩ := new_at (.lst [.ref x4, .ref x5, .ref x6, .ref xo, .ref xw]) hLB
    have s8d := s8c.trans (s19.trans sLB)
    have hvl : vs0.length = (trees 4 R).length := paired_len hvs
    refine ⟨la, LB, vs0, _, rfl, rfl, s8d _ _ hla8, eLB, line_of (by rw [hvl]; show (trees 4 R).length + 5 ≤ 100000; omega), fun LC hLC => ?_⟩
    obtain ⟨sLC, eLC⟩ := new_at (.lst (vs0 ++ [.ref x4, .ref x5, .ref x6, .ref xo, .ref xw])) hLC
    have s8e := s8d.trans sLC
    have s16e := (se3.trans (s17.trans s18)).trans ((s19.trans sLB).trans sLC)
    have hgood : ∀ t ∈ trees 4 R ++ [.tree [], .blob, .tree (ents (rowL root)), .tree (ents (oneL root)), .tree (ents (twoL m0 m1))], ThGood t := fun t ht => by
      rcases List.mem_append.mp ht with ht | ht
      · exact hgt t ht
      · simp only [List.mem_cons, List.not_mem_nil, or_false] at ht
        rcases ht with rfl | rfl | rfl | rfl | rfl
        · exact good_emp
        · exact trivial
        · exact good_of (ok_row hid0).1 (by show 3 ≤ 30; decide) (ok_row hid0).2
        · exact good_of (ok_one hid0).1 (by show 2 ≤ 30; decide) (ok_one hid0).2
        · exact good_of (ok_two hi0 hi1).1 (by show 3 ≤ 30; decide) (ok_two hi0 hi1).2
    refine ⟨LC, _, trees 4 R ++ [.tree [], .blob, .tree (ents (rowL root)), .tree (ents (oneL root)), .tree (ents (twoL m0 m1))], rfl, SqL.of eLC, (fun H' s => SqL.of (s _ _ eLC)), ?_, hgood, ?_, fun bc H20 s20 hI => ⟨_, rfl, ?_⟩⟩
    · refine paired_app (.cons ⟨x4, rfl, ?_⟩ (.cons ⟨x5, rfl, ?_⟩ (.cons ⟨x6, rfl, ?_⟩ (.cons ⟨xo, rfl, ?_⟩ (.cons ⟨xw, rfl, ?_⟩ .nil))))) (L2.Paired.mapP hvs8 fun _ _ q => q.same s8e)
      · exact ThAt.same ((s18.trans (s19.trans sLB)).trans sLC) (t := .tree []) tE
      · exact ThAt.same ((s19.trans sLB).trans sLC) (t := .blob) tB
      · exact ThAt.same (sLB.trans sLC) (t := .tree (ents (rowL root))) tR
      · exact ThAt.same s16e (t := .tree (ents (oneL root))) tOne
      · exact ThAt.same s16e (t := .tree (ents (twoL m0 m1))) tTwo
    · rw [List.length_append]
      show (trees 4 R).length + 5 ≤ 5000
      omega
    have s16f := s16e.trans s20
    refine ite2 (fun _ => hret _ s16f) (fun hbc => ?_)
    have hinj := hI (by cases bc with | false => rfl | true => exact absurd rfl hbc)
    have s8f := s8e.trans s20
    have hOne := ThAt.same (K := K) s16f (t := .tree (ents (oneL root))) tOne
    refine ⟨_, rfl, xo, .tree (ents (oneL root)), rfl, hOne, good_of (ok_one hid0).1 (by show 2 ≤ 30; decide) (ok_one hid0).2, fun H21 s21 => ?_⟩
    have s8g := s8f.trans s21
    refine ⟨_, rfl, LA, _, rfl, .inl (SqL.of (s8g _ _ eLA)), rfl, rfl, _, rfl, ite2 (fun _ => hret _ (s16f.trans s21)) (fun ho => ?_)⟩
    have s16g := s16f.trans s21
    have hTwo := ThAt.same (K := K) s16g (t := .tree (ents (twoL m0 m1))) tTwo
    refine ⟨_, rfl, xw, .tree (ents (twoL m0 m1)), rfl, hTwo, good_of (ok_two hi0 hi1).1 (by show 3 ≤ 30; decide) (ok_two hi0 hi1).2, fun H22 s22 => ?_⟩
    have s8h := s8g.trans s22
    refine ⟨_, rfl, LA, _, rfl, .inl (SqL.of (s8h _ _ eLA)), rfl, rfl, _, rfl, ite2 (fun _ => hret _ (s16g.trans s22)) (fun ht => ?_)⟩
    have s16h := s16g.trans s22
    have hoM : hid (.tree (ents (oneL root))) ≠ m0 ∧ hid (.tree (ents (oneL root))) ≠ m1 := by
      refine ⟨fun e => ho ?_, fun e => ho ?_⟩ <;> (rw [e]; simp [inV, eqV])
    have htM : hid (.tree (ents (twoL m0 m1))) ≠ m0 ∧ hid (.tree (ents (twoL m0 m1))) ≠ m1 := by
      refine ⟨fun e => ht ?_, fun e => ht ?_⟩ <;> (rw [e]; simp [inV, eqV])
    clear s8c s8d s8e s8f s8g s16e s16f s16g hLC sLC eLC eLB sLB hLB tR tB tE s19 s18 s17 s20 s21 s22 hI ho ht hbc
    generalize hTs : trees 4 R ++ [.tree [], .blob, .tree (ents (rowL root)), .tree (ents (oneL root)), .tree (ents (twoL m0 m1))] = Ts at hinj hgood
    have uE : Th.tree [] ∈ Ts := by rw [← hTs]; simp
    have uB : Th.blob ∈ Ts := by rw [← hTs]; simp
    have uR : Th.tree (ents (rowL root)) ∈ Ts := by rw [← hTs]; simp
    have uO : Th.tree (ents (oneL root)) ∈ Ts := by rw [← hTs]; simp
    have uT : Th.tree (ents (twoL m0 m1)) ∈ Ts := by rw [← hTs]; simp
    have uA : ∀ t ∈ trees 4 R, t ∈ Ts := fun t h => by rw [← hTs]; exact List.mem_append_left _ h
    have hok0 : KsOk (· ∈ Ts) ks := fun x hx => ⟨(hok x hx).1, uA _ (hok x hx).2⟩
    have nrk : rd ≠ kd := by
      obtain ⟨_, _, _, q, _⟩ := hst
      exact ne_of_none' hrd q
    -- put the empty tree
    have hst22 := hst8.same s8h
    have b22 : But wa H H22 := fun y o n q => s16h _ _ (b8b _ _ n q)
    obtain ⟨dxS, kvS, haS, hkS, _⟩ := id hst22
    refine ⟨_, rfl, a, dxS, stF kd, rfl, haS, rfl, ?_⟩
    intro e7 he7 x7 dx7 hx7 hdx7 hne7
    obtain ⟨se7, ee7⟩ := new_at (.dK []) he7
    refine mk_tree (l := []) ee7 .nil .nil (fun e h => by cases h) (by decide) hx7 hdx7 hne7 fun H23 s23 tE => ⟨rfl, ?_⟩
    rw [ents_emp] at tE
    refine ⟨a, x7, kd, ks, .tree [], rfl, (hst22.same se7).same s23, tE, good_emp, hok0.val hinj uE, by omega, fun H24 b24 hst24 => ?_⟩
    have bk24 : But kd H22 H24 := fun y o n q => b24 _ _ n (s23 _ _ (se7 _ _ q))
    have hok1 := hok0.put uE
    have hin1 : ∀ t ∈ trees 4 R, valS (putS ks (hid (.tree [])) (.tree [])) (hid t) = some t := fun t h => val_keep hinj (uA t h) uE (hin t h)
    have vE1 : valS (putS ks (hid (.tree [])) (.tree [])) (hid (.tree [])) = some (.tree []) := val_new
    have hl1 := putS_len (l := ks) (k := hid (.tree [])) (v := Th.tree [])
    generalize putS ks (hid (.tree [])) (.tree []) = ks1 at *
    clear hne7 hdx7 hx7 he7 se7 ee7 s23 tE b24
    -- put the blob
    obtain ⟨dx1', kv1, ha24, hk24, _⟩ := id hst24
    refine ⟨_, rfl, a, dx1', stF kd, rfl, ha24, rfl, ?_⟩
    intro x8 dx8 hx8 hdx8 hne8
    refine mk_blob hx8 hdx8 hne8 fun H25 s25 tB => ⟨rfl, ?_⟩
    refine ⟨a, x8, kd, ks1, .blob, rfl, hst24.same s25, tB, trivial, hok1.val hinj uB, by omega, fun H26 b26 hst26 => ?_⟩
    have bk26 : But kd H22 H26 := fun y o n q => b26 _ _ n (s25 _ _ (bk24 _ _ n q))
    have hok2 := hok1.put uB
    have hin2 : ∀ t ∈ trees 4 R, valS (putS ks1 (hid .blob) .blob) (hid t) = some t := fun t h => val_keep hinj (uA t h) uB (hin1 t h)
    have vE2 : valS (putS ks1 (hid .blob) .blob) (hid (.tree [])) = some (.tree []) := val_keep hinj uE uB vE1
    have vB2 : valS (putS ks1 (hid .blob) .blob) (hid .blob) = some .blob := val_new
    have hl2 := putS_len (l := ks1) (k := hid .blob) (v := Th.blob)
    generalize putS ks1 (hid .blob) .blob = ks2 at *
    clear hne8 hdx8 hx8 s25 tB b26
    -- the empty tree's id
    have er26 := bk26 _ _ nrk (s8h _ _ er8)
    have dr22 : DR (PairAt H22) rkv (rowL root) := dr8.imp fun v p q => q.same s8h
    have dr26 : DR (PairAt H26) rkv (rowL root) := dr22.imp fun v p q => q.but hkS bk26
    obtain ⟨vn, hvn, qn, rfl, hqn⟩ := dr26.val_some (k := ("none" : Str)) (x := ("dir", hE)) rfl
    refine ⟨_, rfl, rd, _, rfl, .inl ⟨rkv, .inr ("none" : Str), .inl er26, rfl, hvn.symm⟩, qn, _, _, _, rfl, rfl, SqT.of hqn, rfl, _, rfl, rfl, _, rfl, ite2 (fun h => absurd h (by simp [hE])) (fun _ => ?_)⟩
    -- put the tree of rows
    obtain ⟨dx2', kv2, ha26, hk26, _⟩ := id hst26
    refine ⟨_, rfl, a, dx2', stF kd, rfl, ha26, rfl, _, rfl, ?_⟩
    intro x9 dx9 hx9 hdx9 hne9
    refine mk_tree er26 dr26 (ok_row hid0).1 (ok_row hid0).2 (by show 3 ≤ 30; decide) hx9 hdx9 hne9 fun H27 s27 tR => ⟨rfl, ?_⟩
    refine ⟨a, x9, kd, ks2, .tree (ents (rowL root)), rfl, hst26.same s27, tR, good_of (ok_row hid0).1 (by show 3 ≤ 30; decide) (ok_row hid0).2, hok2.val hinj uR, by omega, fun H28 b28 hst28 => ?_⟩
    have bk28 : But kd H22 H28 := fun y o n q => b28 _ _ n (s27 _ _ (bk26 _ _ n q))
    have hok3 := hok2.put uR
    have hin3 : ∀ t ∈ trees 4 R, valS (putS ks2 (hid (.tree (ents (rowL root)))) (.tree (ents (rowL root)))) (hid t) = some t := fun t h => val_keep hinj (uA t h) uR (hin2 t h)
    have vE3 : valS (putS ks2 (hid (.tree (ents (rowL root)))) (.tree (ents (rowL root)))) (hid (.tree [])) = some (.tree []) := val_keep hinj uE uR vE2
    have vB3 : valS (putS ks2 (hid (.tree (ents (rowL root)))) (.tree (ents (rowL root)))) (hid .blob) = some .blob := val_keep hinj uB uR vB2
    have vR3 : valS (putS ks2 (hid (.tree (ents (rowL root)))) (.tree (ents (rowL root)))) (hid (.tree (ents (rowL root)))) = some (.tree (ents (rowL root))) := val_new
    have hl3 := putS_len (l := ks2) (k := hid (.tree (ents (rowL root)))) (v := Th.tree (ents (rowL root)))
    generalize putS ks2 (hid (.tree (ents (rowL root)))) (.tree (ents (rowL root))) = ks3 at *
    clear hne9 hdx9 hx9 s27 tR b28
    -- due
    obtain ⟨F0, n0, run0, nd0, mem0⟩ := runs_root hRG hRl hin3
    rw [hroot] at run0
    have hgd3 := hok3.good hgood
    have hF0l : ∀ e ∈ ents F0, e.1.length ≤ 20 ∧ txOk e.1 = true ∧ valueOk e.2 = true := fun e he => by
      obtain ⟨r, hr, rfl⟩ := (mem0 e).mp (ents_mem he)
      obtain ⟨q1, q2, q3, q4⟩ := hRG.seg r hr
      have := jn_len (b := 3) r.1 fun s hs => alph7_len s (q2 s hs)
      exact ⟨by show (jn r.1).length ≤ 20; omega, txOk_jn _ fun s hs => txOk_seg (alph7_seg s (q2 s hs)), q4⟩
    have hndE : ((ents F0).map (·.1)).Nodup := by
      rw [ents_keys nd0]
      exact srt_nodup nd0
    have hlE : (ents F0).length ≤ 80 := by
      have h1 : (ents F0).length ≤ (R.map (fun r => ((jn r.1, r.2) : Str × (Str × Str)))).length := sub_len (nodup_of_keys hndE) fun x hx => by
        obtain ⟨r, hr, e⟩ := (mem0 x).mp (ents_mem hx)
        exact List.mem_map.mpr ⟨r, hr, e.symm⟩
      rw [List.length_map] at h1
      omega
    generalize hN : tSeq (tAsg (tCB _ (tCons (tLc (iItems _) _ _ _ _) _)) (gName 11)) _ _ = N
    suffices tail : N [some (.ref wa), some (.ref a), some (.str root), some (.ref la), some (.ref rd), some (.ref LA), some (.ref xo), some (.ref xw), some (.str (hid (.tree []))), some (.str (hid .blob)), some (.str (hid (.tree (ents (rowL root))))), none, none, none, none, none, none, none, none] H28 from tail
    rw [← hN]
    obtain ⟨dx3', kv3, ha28, hk28, _⟩ := id hst28
    refine ⟨_, rfl, a, dx3', stF kd, rfl, ha28, rfl, _, rfl, a, kd, ks3, _, some root, n0, F0, [], rfl, hst28, ⟨rfl, by rw [← hroot, hid_len]; decide⟩, hgd3, run0, .inl ⟨rfl, fun H29 fd s29 hfd ff => ?_⟩⟩
    obtain ⟨fkv, hfd29, fdr⟩ := ff
    refine ⟨fd, .dK fkv, rfl, hfd29, trivial, fun ofd => ?_⟩
    have hfl : (upd H29 fd (.frz ofd (.dK fkv))) fd = some (.frz ofd (.dK fkv)) := upd_same
    have fdl : DR (PairAt (upd H29 fd (.frz ofd (.dK fkv)))) fkv (ents F0) := fdr.imp fun v p q => PairAt.mut (u := .dK fkv) q hfd29 (by intro _ z; cases z)
    have s30 : Same H28 (upd H29 fd (.frz ofd (.dK fkv))) := s29.mut hfd
    clear fdr hfd29 s29
    generalize upd H29 fd (.frz ofd (.dK fkv)) = H30 at *
    have hfk : fkv.length = (ents F0).length := fdl.len
    have ed4 : (Str.ofString "dir/").length = 4 := by decide +kernel
    refine ⟨fd, ofd, fkv, rfl, hfl, fun D hD => lc_of (n := fkv.length) (fun j H' => Same H30 H' ∧ ∃ (ps : List Addr) (bkv : List (Key × V)), H' D = some (.lst (ps.map V.ref)) ∧ Paired (fun p kv => H' p = some (.tup [kV kv.1, kv.2])) ps bkv ∧ DR (PairAt H') bkv (((ents F0).take j).map fun e => (("dir/" : Str) ++ e.1, e.2)))
      ⟨Same.new hD, [], [], upd_same, .nil, .nil⟩ (fun j H' hj q => ⟨q.1 _ _ hfl, hj⟩) (fun H' q => ⟨q.1 _ _ hfl, Nat.le_refl _⟩) ?_ ?_⟩
    · rintro j x H31 H32 hj ⟨s31, ps, bkv, l31, p31, d31⟩ ⟨T0, kk, v, hkv, rfl, hT, rfl⟩
      obtain ⟨e, hf, rfl, hpv⟩ := fdl.get hkv
      obtain ⟨q1, _, _⟩ := hF0l e (List.mem_of_getElem? hf)
      obtain ⟨sT, eT⟩ := new_at (.tup [kV (.inr e.1), v]) hT
      refine ⟨T0, _, rfl, SqT.of upd_same, rfl, _, _, rfl, _, _, rfl, rfl, rfl, ?_⟩
      refine ⟨_, rfl, _, _, rfl, rfl, line_of (by rw [ed4]; omega), _, rfl, (by show 2 ≤ sizeLine; exact line_of (by decide)), fun T1 hT1 => ?_⟩
      obtain ⟨sT1, eT1⟩ := new_at (.tup [.str (Str.ofString "dir/" ++ e.1), v]) hT1
      have l33 := sT1 _ _ (sT _ _ l31)
      have hpl : ps.length ≤ 80 := by
        rw [paired_len p31, d31.len, List.length_map]
        exact Nat.le_trans (List.length_take_le' _ _) hlE
      have nD : ∀ {c : Addr} {o : HO}, (upd (upd H31 T0 (.tup [kV (.inr e.1), v])) T1 (.tup [.str (Str.ofString "dir/" ++ e.1), v])) c = some o → (∀ xs, o ≠ .lst xs) → (upd (upd (upd H31 T0 (.tup [kV (.inr e.1), v])) T1 (.tup [.str (Str.ofString "dir/" ++ e.1), v])) D (.lst (ps.map V.ref ++ [.ref T1]))) c = some o := fun h hn => by
        rw [upd_ne (ne_of h l33 (hn _))]; exact h
      have htk : ((ents F0).take (j + 1)).map (fun e => ((("dir/" : Str) ++ e.1, e.2) : Str × (Str × Str))) = ((ents F0).take j).map (fun e => (("dir/" : Str) ++ e.1, e.2)) ++ [(("dir/" : Str) ++ e.1, e.2)] := by
        rw [List.take_add_one, hf, List.map_append]
        rfl
      refine ⟨_, l33, by rw [List.length_map]; exact line_lt (by omega), (s31.trans (sT.trans sT1)).mut hD, ps ++ [T1], bkv ++ [(.inr (("dir/" : Str) ++ e.1), v)], by rw [upd_same, List.map_append]; rfl, ?_, ?_⟩
      · refine paired_snoc (a := T1) (b := ((.inr (("dir/" : Str) ++ e.1), v) : Key × V)) (nD eT1 (by intro _ z; cases z)) ?_
        exact L2.Paired.mapP p31 fun _ _ q => nD (sT1 _ _ (sT _ _ q)) (by intro _ z; cases z)
      · rw [htk]
        refine paired_snoc (F := fun (p : Key × V) (f : Str × (Str × Str)) => p.1 = .inr f.1 ∧ PairAt _ p.2 f.2) ⟨rfl, PairAt.mut (u := .lst (ps.map V.ref)) (((hpv.same s31).same sT).same sT1) l33 (by intro _ z; cases z)⟩ (d31.imp fun v p q => PairAt.mut (u := .lst (ps.map V.ref)) ((q.same sT).same sT1) l33 (by intro _ z; cases z))
    rintro H31 ⟨s31, ps, bkv, l31, p31, d31⟩
    rw [hfk, List.take_length] at d31
    refine ⟨D, ps, bkv, rfl, SqL.of l31, L2.Paired.mapP p31 fun _ _ q => SqT.of q, fun ud hud => ?_⟩
    have hndD : (((ents F0).map fun e => ((("dir/" : Str) ++ e.1, e.2) : Str × (Str × Str))).map (·.1)).Nodup := by
      rw [List.map_map]
      have e1 : ((fun (e : Str × (Str × Str)) => e.1) ∘ fun (e : Str × (Str × Str)) => ((("dir/" : Str) ++ e.1, e.2) : Str × (Str × Str))) = (fun z => ("dir/" : Str) ++ z) ∘ fun (e : Str × (Str × Str)) => e.1 := rfl
      rw [e1, ← List.map_map]
      exact List.Pairwise.map _ (fun a b h e => h (cons_inj_left e)) hndE
    have dm := merge_dr hndD d31
    generalize mergeK [] bkv = ukv at dm
    obtain ⟨sud, eud⟩ := new_at (.dK ukv) hud
    have s28u := (s30.trans s31).trans sud
    have nud : H28 ud = none := (s30.trans s31).free hud
    have dmu := dm.imp fun v p q => q.same sud
    clear dm sud hud d31 p31 l31 s31 s30 hfl fdl hD
    generalize upd H31 ud (.dK ukv) = H32 at *
    generalize hDl : (ents F0).map (fun e => ((("dir/" : Str) ++ e.1, e.2) : Str × (Str × Str))) = Dl at *
    have hDll : Dl.length ≤ 80 := by rw [← hDl, List.length_map]; exact hlE
    refine ⟨48, 16, (by decide +kernel), rfl, (by decide), (by decide), ⟨(by show 2 ≤ sizeLine; exact line_of (by decide)), fun T2 hT2 => ?_⟩⟩
    obtain ⟨sT2, eT2⟩ := new_at (.tup [.str "file", .str ⟨(List.replicate 16 #[48]).foldl (· ++ ·) #[]⟩]) hT2
    have eud2 := sT2 _ _ eud
    refine ⟨_, rfl, ud, _, rfl, .inl ⟨ukv, .inr (Str.ofString "f"), eud2, rfl, by rw [dmu.len]; exact line_lt (by omega), rfl⟩, ?_⟩
    have du2 : DR (PairAt (upd (upd H32 T2 (.tup [.str "file", .str ⟨(List.replicate 16 #[48]).foldl (· ++ ·) #[]⟩])) ud (.dK (putK ukv (.inr (Str.ofString "f")) (.ref T2))))) (putK ukv (.inr (Str.ofString "f")) (.ref T2)) (putS Dl ("f" : Str) (("file" : Str), z16)) :=
      DR.put (dmu.imp fun v p q => PairAt.mut (u := .dK ukv) (q.same sT2) eud2 (by intro _ z; cases z)) (PairAt.mut (u := .dK ukv) ⟨T2, rfl, eT2⟩ eud2 (by intro _ z; cases z))
    have eud3 : (upd (upd H32 T2 (.tup [.str "file", .str ⟨(List.replicate 16 #[48]).foldl (· ++ ·) #[]⟩])) ud (.dK (putK ukv (.inr (Str.ofString "f")) (.ref T2)))) ud = some (.dK (putK ukv (.inr (Str.ofString "f")) (.ref T2))) := upd_same
    have s28v := (s28u.trans sT2).mut (o := .dK (putK ukv (.inr (Str.ofString "f")) (.ref T2))) nud
    clear dmu eud2 eud sT2 eT2 hT2
    generalize upd (upd H32 T2 _) ud _ = H33 at *
    generalize putK ukv (.inr (Str.ofString "f")) (.ref T2) = vkv at *
    -- the due files, sorted
    have nef : ∀ y : Str, ("f" : Str) ≠ ("dir/" : Str) ++ y := fun y e => by
      have := congrArg Str.length e
      rw [len_app] at this
      have h1 : ("f" : Str).length = 1 := by decide +kernel
      have h2 : ("dir/" : Str).length = 4 := by decide +kernel
      omega
    have hfn : ("f" : Str) ∉ Dl.map (·.1) := fun h => by
      rw [← hDl, List.map_map] at h
      obtain ⟨e, _, he⟩ := List.mem_map.mp h
      exact nef e.1 he.symm
    rw [putS_new (valS_none.mpr hfn)] at du2
    have memD : ∀ e, e ∈ Dl ++ [(("f" : Str), (("file" : Str), z16))] ↔ e = (("f" : Str), (("file" : Str), z16)) ∨ ∃ r ∈ R, e = (("dir/" : Str) ++ jn r.1, r.2) := fun e => by
      rw [List.mem_append, List.mem_singleton, ← hDl, List.mem_map, or_comm]
      constructor
      · rintro (h | ⟨e0, he0, rfl⟩)
        · exact .inl h
        · obtain ⟨r, hr, rfl⟩ := (mem0 e0).mp (ents_mem he0)
          exact .inr ⟨r, hr, rfl⟩
      · rintro (h | ⟨r, hr, rfl⟩)
        · exact .inl h
        · exact .inr ⟨(jn r.1, r.2), (mem_ents nd0).mpr ((mem0 _).mpr ⟨r, hr, rfl⟩), rfl⟩
    have ndD : ((Dl ++ [(("f" : Str), (("file" : Str), z16))]).map (·.1)).Nodup := by
      rw [List.map_append]
      exact List.nodup_append.mpr ⟨hndD, by simp, fun a ha b hb' e => by
        rw [e, List.mem_singleton.mp hb'] at ha
        exact hfn ha⟩
    have lenD : (Dl ++ [(("f" : Str), (("file" : Str), z16))]).length ≤ 81 := by
      rw [List.length_append]
      show Dl.length + 1 ≤ 81
      omega
    have okD : ∀ e ∈ Dl ++ [(("f" : Str), (("file" : Str), z16))], e.1.length ≤ 100 ∧ txOk e.1 = true ∧ txOk e.2.1 = true ∧ txOk e.2.2 = true := fun e he => by
      rcases (memD e).mp he with rfl | ⟨r, hr, rfl⟩
      · exact ⟨by decide +kernel, by decide +kernel, by decide +kernel, by decide +kernel⟩
      · obtain ⟨q1, q2, q3, q4⟩ := hRG.seg r hr
        have h1 := jn_len (b := 3) r.1 fun s hs => alph7_len s (q2 s hs)
        refine ⟨?_, ?_, txOk_kind (value_kind q4).1, txOk_id (value_kind q4).2⟩
        · show (("dir/" : Str) ++ jn r.1).length ≤ 100
          rw [len_app]
          have h2 : ("dir/" : Str).length = 4 := by decide +kernel
          omega
        · rw [txOk_iff]
          intro c hc
          rw [tl_append] at hc
          rcases List.mem_append.mp hc with hc | hc
          · exact (txOk_iff ("dir/" : Str)).mp (by decide +kernel) c hc
          · exact (txOk_iff (jn r.1)).mp (txOk_jn _ fun s hs => txOk_seg (alph7_seg s (q2 s hs))) c hc
    obtain ⟨F1, n1, run1, nd1, mem1⟩ := runs_row hRG hRl hin3 (by rw [hroot]; exact vR3) vE3
    rw [hroot] at run1
    have hents : ents F1 = ents (Dl ++ [(("f" : Str), (("file" : Str), z16))]) := ents_congr nd1 ndD fun e => (mem1 e).trans (memD e).symm
    generalize Dl ++ [(("f" : Str), (("file" : Str), z16))] = El at *
    -- told
    refine ⟨_, rfl, _, rfl, ?_⟩
    dsimp only [tNil]
    refine lread_told (hst28.same s28v) (oddS (by rw [hid_len]; decide)) hgd3 run1 fun H34 td q12 s34 ff e12 => ?_
    have s28x := s28v.trans s34
    have ud34 := s34 _ _ eud3
    have du34 : DR (PairAt H34) vkv El := du2.imp fun v p q => q.same s34
    refine ⟨_, rfl, ud, vkv, El.map (·.1), rfl, .inl ud34, du34.keys, by rw [List.length_map]; omega, fun ys SL hp2 hso2 hSL => ?_⟩
    obtain rfl := srt_unique hp2 hso2
    obtain ⟨sSL, eSL⟩ := new_at (.lst ((srt (El.map (·.1))).map V.str)) hSL
    obtain ⟨eg1, eg2⟩ := ents_get ndD
    refine ⟨SL, rfl, ⟨_, SqL.of eSL⟩, fun D hD => lc_list (K := K) (a := SL) (xs := (srt (El.map (·.1))).map V.str) (fun i H' => Same (upd H34 SL (.lst ((srt (El.map (·.1))).map V.str))) H' ∧ ∃ vs, H' D = some (.lst vs) ∧ Paired (ItAt H') vs ((ents El).take i))
      ⟨Same.new hD, [], upd_same, .nil⟩ (fun i H' _ q => SqL.of (q.1 _ _ eSL)) ?_ ?_⟩
    · rintro i y H35 hy ⟨s35, vs, l35, p35⟩
      obtain ⟨z, hz, rfl⟩ : ∃ z, (srt (El.map (·.1)))[i]? = some z ∧ y = V.str z := by
        rw [List.getElem?_map] at hy
        cases e : (srt (El.map (·.1)))[i]? with
        | none => rw [e] at hy; cases hy
        | some z => rw [e] at hy; exact ⟨z, rfl, (Option.some.inj hy).symm⟩
      obtain ⟨pr, hpr, hrow⟩ := eg2 i z hz
      obtain ⟨v, hv, hpa⟩ := du34.val_some hpr
      have s45 := sSL.trans s35
      refine ⟨rfl, _, rfl, _, rfl, _, rfl, ud, v, rfl, .inl ⟨vkv, .inr z, .inl (s45 _ _ ud34), rfl, hv.symm⟩, (by show 2 ≤ sizeLine; exact line_of (by decide)), fun T0 hT0 => ?_⟩
      obtain ⟨sT0, eT0⟩ := new_at (.tup [.str z, v]) hT0
      have l36 := sT0 _ _ l35
      refine ⟨vs, l36, ?_, (s35.trans sT0).mut hD, _, upd_same, ?_⟩
      · rw [paired_len p35]
        refine line_lt (Nat.le_trans (List.length_take_le' _ _) ?_)
        rw [eg1]
        omega
      · rw [List.take_add_one, hrow]
        refine paired_snoc (F := ItAt _) (ItAt.mut (u := .lst vs) ⟨T0, v, rfl, eT0, (hpa.same s45).same sT0⟩ l36 (by intro _ z; cases z)) ?_
        exact L2.Paired.mapP p35 fun _ _ q => ItAt.mut (u := .lst vs) (q.same sT0) l36 (by intro _ z; cases z)
    rintro H35 ⟨s35, vs, l35, p35⟩
    rw [List.length_map, srt_len, List.length_map, List.take_of_length_le (Nat.le_of_eq eg1)] at p35
    have s28y := s28x.trans (sSL.trans s35)
    have e12y := s35 _ _ (sSL _ _ e12)
    have okE : ∀ e ∈ ents El, txOk e.1 = true ∧ txOk e.2.1 = true ∧ txOk e.2.2 = true := fun e he => (okD e (ents_mem he)).2
    obtain ⟨tkv, htd, tdr⟩ := ff.same (sSL.trans s35)
    clear hSL sSL eSL s34 du34 ud34 s35 e12 s28x du2 eud3 s28v ff
    refine ⟨_, rfl, q12, _, _, _, rfl, rfl, SqT.of e12y, rfl, rfl, _, rfl, ite2 (fun h => absurd h (by simp)) (fun _ => ?_)⟩
    refine ⟨_, rfl, q12, _, _, _, rfl, rfl, SqT.of e12y, rfl, td, tkv, rfl, htd, fun H36 pl ts s36 _ _ _ hpl hts => ?_⟩
    have tdr36 := tdr.imp fun v p q => q.same (H' := H36) s36
    refine ⟨_, rfl, .list ((ents F1).map itD), .list ((ents El).map itD), .lst (SqL.of hpl) (items_dp hts tdr36), .lst (SqL.of (s36 _ _ l35)) (its_dp (L2.Paired.mapP p35 fun _ _ q => q.same s36)), shaped_its (by rw [hents]; exact okE), shaped_its okE, _, rfl, ite2 (fun h => absurd h (by rw [hents, eqv_its]; simp)) (fun _ => ?_)⟩
    have s28z := s28y.trans s36
    clear tdr36 hpl hts s36 tdr htd p35 l35 e12y s28y
    -- lost in the store
    have bk36 : But kd H22 H36 := fun y o n q => s28z _ _ (bk28 _ _ n q)
    have hst36 := hst28.same s28z
    have hret2 : ∀ H', Same H36 H' → Q (.bl true) H' := fun H' s => kQ H' fun y o n1 n2 q => s _ _ (bk36 _ _ n2 (b22 _ _ n1 q))
    have eLA22 := s8h _ _ eLA
    have nLAk : LA ≠ kd := ne_of eLA22 hkS (by intro z; cases z)
    have eLA36 := bk36 _ _ nLAk eLA22
    obtain ⟨dx4', kv4, ha36, hk36, _⟩ := id hst36
    refine ⟨_, rfl, LA, _, _, _, rfl, rfl, SqL.of eLA36, rfl, _, rfl, a, dx4', stF kd, rfl, ha36, a, kd, ks3, _, some m0, rfl, hst36, oddS (by rw [idLen hi0]; decide), _, rfl, _, rfl, ite2 (fun _ => hret2 _ (fun _ _ z => z)) (fun hl0 => ?_)⟩
    refine ⟨_, rfl, LA, _, _, _, rfl, rfl, SqL.of eLA36, rfl, _, rfl, a, dx4', stF kd, rfl, ha36, a, kd, ks3, _, some m1, rfl, hst36, oddS (by rw [idLen hi1]; decide), _, rfl, _, rfl, ite2 (fun _ => hret2 _ (fun _ _ z => z)) (fun hl1 => ?_)⟩
    have v0 : valS ks3 m0 = none := by
      cases e : valS ks3 m0 with
      | none => rfl
      | some t => exact absurd (show (valS ks3 m0).isSome = true by rw [e]; rfl) hl0
    have v1 : valS ks3 m1 = none := by
      cases e : valS ks3 m1 with
      | none => rfl
      | some t => exact absurd (show (valS ks3 m1).isSome = true by rw [e]; rfl) hl1
    have tOne22 := ThAt.same (K := K) s16h (t := .tree (ents (oneL root))) tOne
    have tTwo22 := ThAt.same (K := K) s16h (t := .tree (ents (twoL m0 m1))) tTwo
    have gOne : ThGood (.tree (ents (oneL root))) := good_of (ok_one hid0).1 (by show 2 ≤ 30; decide) (ok_one hid0).2
    have gTwo : ThGood (.tree (ents (twoL m0 m1))) := good_of (ok_two hi0 hi1).1 (by show 3 ≤ 30; decide) (ok_two hi0 hi1).2
    generalize hN2 : tSeq (tPar 14 15 _) _ _ = N2
    suffices tail2 : ∀ x14 x15, N2 [some (.ref wa), some (.ref a), some (.str root), some (.ref la), some (.ref rd), some (.ref LA), some (.ref xo), some (.ref xw), some (.str (hid (.tree []))), some (.str (hid .blob)), some (.str (hid (.tree (ents (rowL root))))), some (.ref ud), x14, x15, none, none, none, none, none] H36 from tail2 _ _
    intro x14 x15
    rw [← hN2]
    refine ⟨_, rfl, a, dx4', stF kd, rfl, ha36, rfl, _, rfl, a, xo, kd, ks3, .tree (ents (oneL root)), rfl, hst36, ThAt.but hkS bk36 tOne22, gOne, hok3.val hinj uO, by omega, fun H37 b37 hst37 => ?_⟩
    have bk37 : But kd H22 H37 := bk36.trans b37
    have hok4 := hok3.put uO
    have hin4 : ∀ t ∈ trees 4 R, valS (putS ks3 (hid (.tree (ents (oneL root)))) (.tree (ents (oneL root)))) (hid t) = some t := fun t h => val_keep hinj (uA t h) uO (hin3 t h)
    have vB4 : valS (putS ks3 (hid (.tree (ents (oneL root)))) (.tree (ents (oneL root)))) (hid .blob) = some .blob := val_keep hinj uB uO vB3
    have vO4 : valS (putS ks3 (hid (.tree (ents (oneL root)))) (.tree (ents (oneL root)))) (hid (.tree (ents (oneL root)))) = some (.tree (ents (oneL root))) := val_new
    have w0 : valS (putS ks3 (hid (.tree (ents (oneL root)))) (.tree (ents (oneL root)))) m0 = none := val_out v0 hoM.1.symm
    have w1 : valS (putS ks3 (hid (.tree (ents (oneL root)))) (.tree (ents (oneL root)))) m1 = none := val_out v1 hoM.2.symm
    have hl4 := putS_len (l := ks3) (k := hid (.tree (ents (oneL root)))) (v := Th.tree (ents (oneL root)))
    generalize putS ks3 (hid (.tree (ents (oneL root)))) (.tree (ents (oneL root))) = ks4 at *
    obtain ⟨dx5', kv5, ha37, hk37, _⟩ := id hst37
    refine ⟨_, rfl, a, dx5', stF kd, rfl, ha37, rfl, _, rfl, a, xw, kd, ks4, .tree (ents (twoL m0 m1)), rfl, hst37, ThAt.but hkS bk37 tTwo22, gTwo, hok4.val hinj uT, by omega, fun H38 b38 hst38 => ?_⟩
    have bk38 : But kd H22 H38 := bk37.trans b38
    have hok5 := hok4.put uT
    have hin5 : ∀ t ∈ trees 4 R, valS (putS ks4 (hid (.tree (ents (twoL m0 m1)))) (.tree (ents (twoL m0 m1)))) (hid t) = some t := fun t h => val_keep hinj (uA t h) uT (hin4 t h)
    have vB5 : valS (putS ks4 (hid (.tree (ents (twoL m0 m1)))) (.tree (ents (twoL m0 m1)))) hb = some .blob := val_keep hinj uB uT vB4
    have vO5 : valS (putS ks4 (hid (.tree (ents (twoL m0 m1)))) (.tree (ents (twoL m0 m1)))) (hid (.tree (ents (oneL root)))) = some (.tree (ents (oneL root))) := val_keep hinj uO uT vO4
    have vT5 : valS (putS ks4 (hid (.tree (ents (twoL m0 m1)))) (.tree (ents (twoL m0 m1)))) (hid (.tree (ents (twoL m0 m1)))) = some (.tree (ents (twoL m0 m1))) := val_new
    have y0 : valS (putS ks4 (hid (.tree (ents (twoL m0 m1)))) (.tree (ents (twoL m0 m1)))) m0 = none := val_out w0 htM.1.symm
    have y1 : valS (putS ks4 (hid (.tree (ents (twoL m0 m1)))) (.tree (ents (twoL m0 m1)))) m1 = none := val_out w1 htM.2.symm
    generalize putS ks4 (hid (.tree (ents (twoL m0 m1)))) (.tree (ents (twoL m0 m1))) = ks5 at *
    have hgd5 := hok5.good hgood
    refine ⟨_, _, rfl, ?_⟩
    have eLA38 := bk38 _ _ nLAk eLA22
    -- wrong
    obtain ⟨F2, n2, run2⟩ := runs_one hRG hRl hin5 (by rw [hroot]; exact vO5) vB5
    rw [hroot] at run2
    refine ⟨_, rfl, _, rfl, ?_⟩
    dsimp only [tNil]
    refine lread_other hst38 (oddS (by rw [hid_len]; decide)) hgd5 run2 (by simp) (by simp [absL, hasB, vB5]) fun H39 q13 s39 e13 => ?_
    refine ⟨(by show 2 ≤ sizeLine; exact line_of (by decide)), fun T3 hT3 => ?_⟩
    obtain ⟨sT3, eT3⟩ := new_at (.tup [.str "other", .int 0]) hT3
    refine ⟨.tuple [.str "other", .int 0], .tuple [.str "other", .int 0], .tup (SqT.of (sT3 _ _ e13)) (.cons (.str _) (.cons (.int _) .nil)), .tup (SqT.of eT3) (.cons (.str _) (.cons (.int _) .nil)), by decide +kernel, by decide +kernel, _, rfl, ite2 (fun h => absurd h (by decide +kernel)) (fun _ => ?_)⟩
    have s38a := s39.trans sT3
    clear hT3 eT3 e13
    generalize upd H39 T3 _ = H40 at *
    -- more
    refine ⟨_, rfl, _, rfl, ?_⟩
    dsimp only [tNil]
    refine lread_absent2 (x := m0) (y := m1) (r := []) (hst38.same s38a) (oddS (by rw [hid_len]; decide)) hgd5 (runs_two vT5 vB5 y0 y1) (by simp) (by simp [absL, hasB, vB5, y0, y1]) (fun z hz => by rw [List.mem_singleton.mp hz]; exact hle) fun H41 q14 s41 e14 => ?_
    have s38b := s38a.trans s41
    refine ⟨_, rfl, LA, _, _, _, rfl, rfl, SqL.of (s38b _ _ eLA38), rfl, (by show 2 ≤ sizeLine; exact line_of (by decide)), fun T4 hT4 => ?_⟩
    obtain ⟨sT4, eT4⟩ := new_at (.tup [.str "absent", .str m0]) hT4
    have hshm : SeqAt.shaped (pairD (("absent" : Str), m0)) = true := shaped_pair (show txOk ("absent" : Str) = true by decide +kernel) (txOk_id hi0)
    refine ⟨pairD (("absent" : Str), m0), pairD (("absent" : Str), m0), PairAt.dp ⟨q14, rfl, sT4 _ _ e14⟩, PairAt.dp ⟨T4, rfl, eT4⟩, hshm, hshm, _, rfl, ite2 (fun h => absurd h (by rw [eqv_pair]; simp)) (fun _ => ?_)⟩
    have s38c := s38b.trans sT4
    clear hT4 eT4 e14 s41 s38b
    generalize upd H41 T4 _ = H42 at *
    -- odd
    have hw22 := hw8.same s8h
    have hw42 : WellAt H42 wa (c + 17 + 17) := by
      obtain ⟨u0, u1, u2, e, q⟩ := hw22
      exact ⟨u0, u1, u2, s38c _ _ (bk38 _ _ (ne_of e hkS (by intro z; cases z)) e), q⟩
    obtain ⟨wl42, hwl42⟩ := hw42.lst
    have eLA42 := s38c _ _ eLA38
    refine ⟨_, rfl, _, rfl, LA, _, _, _, rfl, rfl, SqL.of eLA42, rfl, 48, 15, (by decide +kernel), rfl, (by decide), (by decide), (by show 2 ≤ sizeLine; exact line_of (by decide)), fun P1 hP1 => ⟨Nat.zero_le _, fun P2 hP2 => ⟨(by show 5 ≤ sizeLine; exact line_of (by decide)), fun P3 hP3 => ?_⟩⟩⟩
    obtain ⟨sP1, eP1⟩ := new_at (.tup [.int 1, .int 2]) hP1
    obtain ⟨sP2, eP2⟩ := new_at (.lst []) hP2
    obtain ⟨sP3, eP3⟩ := new_at (.lst [.str m0, .str ⟨(List.replicate 15 #[48]).foldl (· ++ ·) #[]⟩, .non, .ref P1, .ref P2]) hP3
    have nP2 : P2 ≠ wa := ne_of_none' hP2 (sP1 _ _ hwl42)
    have nP3 : P3 ≠ wa := ne_of_none' hP3 (sP2 _ _ (sP1 _ _ hwl42))
    have eP1' := sP3 _ _ (sP2 _ _ eP1)
    have eP2' := sP3 _ _ eP2
    have s38d := s38c.trans (sP1.trans (sP2.trans sP3))
    have s42p := sP1.trans (sP2.trans sP3)
    clear hP3 sP3 hP2 sP2 eP2 hP1 sP1 eP1
    generalize upd (upd (upd H42 P1 _) P2 _) P3 _ = H43 at *
    have hw43 := hw42.same s42p
    have hwl43 := s42p _ _ hwl42
    refine ⟨wa, P3, c + 17 + 17, _, rfl, hw43, by omega, by omega, eP3, nP3, (by show 0 < 5; decide), (by show 5 ≤ 1000; decide), fun H44 i y b44 hw44 hy => ?_⟩
    have hst44 : StAt K H44 a kd ks5 := StAt.butL hwl43 b44 (hst38.same s38d)
    have oddw : ∃ o d, OddW K H44 ks5 y o d := by
      have hmm := List.mem_of_getElem? hy
      simp only [List.mem_cons, List.not_mem_nil, or_false] at hmm
      rcases hmm with rfl | rfl | rfl | rfl | rfl
      · exact ⟨some m0, .str m0, oddS (by rw [idLen hi0]; decide), ents_out y0, by simp [hasB, y0], fun _ _ => .str _, by simp [PyData.showable], by simp [PyData.hasDict], by simp [PyData.depth], shown_id hi0⟩
      · have vz := val_short hok5 (z := ⟨(List.replicate 15 #[48]).foldl (· ++ ·) #[]⟩) (by decide +kernel)
        exact ⟨some _, .str _, oddS (by decide +kernel), ents_out vz, by simp only [hasB, Option.elim]; rw [vz]; rfl, fun _ _ => .str _, by simp [PyData.showable], by simp [PyData.hasDict], by simp [PyData.depth], by decide +kernel⟩
      · exact ⟨none, .none, .inl rfl, rfl, rfl, fun _ _ => .non, by simp [PyData.showable], by simp [PyData.hasDict], by simp [PyData.depth], by decide +kernel⟩
      · have e := b44 _ _ (ne_of eP1' hwl43 (by intro z; cases z)) eP1'
        exact ⟨none, .tuple [.int 1, .int 2], .inr (.inl ⟨P1, _, rfl, e⟩), rfl, rfl, fun _ s => .tup (SqT.of (s _ _ e)) (.cons (.int 1) (.cons (.int 2) .nil)), by decide +kernel, by decide +kernel, by decide +kernel, by decide +kernel⟩
      · have e := b44 _ _ nP2 eP2'
        exact ⟨none, .list [], .inr (.inr ⟨P2, _, rfl, e⟩), rfl, rfl, fun _ s => .lst (SqL.of (s _ _ e)) .nil, by decide +kernel, by decide +kernel, by decide +kernel, by decide +kernel⟩
    obtain ⟨o, d, ow⟩ := oddw
    -- the blob
    refine ⟨_, rfl, _, rfl, ?_⟩
    dsimp only [tNil]
    refine lread_other hst44 (oddS (by rw [hid_len]; decide)) hgd5 (runs_odd (ents_blob vB5)) (by simp) (by have e : valS ks5 (hid .blob) = some .blob := vB5; simp [absL, hasB, e]) fun H45 q15 s45 e15 => ?_
    refine ⟨(by show 2 ≤ sizeLine; exact line_of (by decide)), fun T5 hT5 => ?_⟩
    obtain ⟨sT5, eT5⟩ := new_at (.tup [.str "other", .int 0]) hT5
    refine ⟨.tuple [.str "other", .int 0], .tuple [.str "other", .int 0], .tup (SqT.of (sT5 _ _ e15)) (.cons (.str _) (.cons (.int _) .nil)), .tup (SqT.of eT5) (.cons (.str _) (.cons (.int _) .nil)), by decide +kernel, by decide +kernel, _, rfl, ite2 (fun _ => ?_) (fun h => absurd (by decide +kernel) h)⟩
    have s44a := s45.trans sT5
    clear hT5 eT5 e15
    generalize upd H45 T5 _ = H46 at *
    -- what is told of odd
    refine ⟨_, rfl, _, rfl, ?_⟩
    dsimp only [tNil]
    refine lread_absent1 (hst44.same s44a) (ow.odd.same s44a) hgd5 (runs_odd ow.out) (by simp) (absL_one ow.has) fun H47 q16 s47 e16 => ?_
    have hsh : (PyData.tuple [.str "absent", d]).showable = true := by simp [PyData.showable, PyData.showableAll, ow.show_]
    have hnd2 : (PyData.tuple [.str "absent", d]).hasDict = false := by simp [PyData.hasDict, PyData.hasDictAll, ow.nod]
    have hdp : (PyData.tuple [.str "absent", d]).depth ≤ 30 := by
      have := ow.depth
      simp only [PyData.depth, PyData.depthAll]
      omega
    have s44b := s44a.trans s47
    refine ⟨q16, .tuple [.str "absent", d], rfl, .tup (SqT.of e16) (.cons (.str _) (.cons (ow.dp _ s44b) .nil)), hsh, hnd2, hdp, shown_pair ow.len, ?_⟩
    refine ⟨_, rfl, (by show 2 ≤ sizeLine; exact line_of (by decide)), fun T6 hT6 => ?_⟩
    obtain ⟨sT6, eT6⟩ := new_at (.tup [.str "absent", y]) hT6
    refine ⟨T6, .tuple [.str "absent", d], rfl, .tup (SqT.of eT6) (.cons (.str _) (.cons (ow.dp _ (s44b.trans sT6)) .nil)), hsh, hnd2, hdp, shown_pair ow.len, rfl, ?_⟩
    have hq := kQ _ fun z o n1 n2 q => (s44b.trans sT6) _ _ (b44 _ _ n1 (s38d _ _ (bk38 _ _ n2 (b22 _ _ n1 q))))
    rw [show decide (V.str (PyData.tuple [.str "absent", d]).shown = V.str (PyData.tuple [.str "absent", d]).shown) = true from decide_eq_true rfl]
    exact hq
end
end FK

/-! Forkhaul k08: the law, the mathematics. -/
namespace FK
open PySem PySem.Spec PyProof.Rows L2 TL
open PySem.W (Frag)
/-! ### what stands when an object of another kind changes -/
section
variable {K : Frag} {m : Addr} {u : HO} {H H' : Hp}
theorem But.same {H0 : Hp} (s : Same H0 H) (b : But m H H') (h : H0 m = Option.none) : Same H0 H' := fun x o e => b _ _ (ne_of_none e h) (s _ _ e)
theorem ItAt.butO {v : V} {e : Str × (Str × Str)} (h : ItAt H v e) (hk : H m = some u) (hu : ∀ xs, u ≠ .tup xs) (s : But m H H') : ItAt H' v e := by
  obtain ⟨t, y, e1, e2, e3⟩ := h
  exact ⟨t, y, e1, s _ _ (ne_of e2 hk (hu _).symm) e2, e3.butO hk hu s⟩
theorem FdAt.butL {wl : List V} {d : Addr} {fs : Fls} (h : FdAt H d fs) (hk : H m = some (.lst wl)) (s : But m H H') : FdAt H' d fs := by
  obtain ⟨kvs, h1, h2⟩ := h
  exact ⟨kvs, s _ _ (ne_of h1 hk (by intro z; cases z)) h1, h2.imp fun v p q => q.butO hk (by intro _ z; cases z) s⟩
theorem FdAt.butS {C dx : Addr} {fl : List (Str × V)} {d : Addr} {fs : Fls} (h : FdAt H d fs) (hk : H m = some (.ins C dx fl)) (s : But m H H') : FdAt H' d fs := by
  obtain ⟨kvs, h1, h2⟩ := h
  exact ⟨kvs, s _ _ (ne_of h1 hk (by intro z; cases z)) h1, h2.imp fun v p q => q.butO hk (by intro _ z; cases z) s⟩
theorem ThAt.butS {C dx kd : Addr} {a : Addr} (hk : H m = some (.ins C dx (stF kd))) (s : But m H H') : ∀ {t : Th}, ThAt K H a t → ThAt K H' a t
  | .blob, ⟨dy, h⟩ => ⟨dy, s _ _ (ne_of h hk (by intro z; injection z with _ _ z; exact absurd (congrArg List.length z) (by show ¬ 1 = 2; decide))) h⟩
  | .tree es, ⟨dy, t, rs, a1, a2, a3⟩ => ⟨dy, t, rs, s _ _ (ne_of a1 hk (by intro z; injection z with _ _ z; exact absurd (congrArg List.length z) (by show ¬ 1 = 2; decide))) a1, s _ _ (ne_of a2 hk (by intro z; cases z)) a2,
      L2.Paired.mapP a3 fun _ _ ⟨q, e1, e2⟩ => ⟨q, e1, s _ _ (ne_of e2 hk (by intro z; cases z)) e2⟩⟩
theorem StAt.butS {C dx kd a' kd' : Addr} {ks : List (Str × Th)} (hk : H m = some (.ins C dx (stF kd))) (n : a' ≠ m) (s : But m H H') (h : StAt K H a' kd' ks) : StAt K H' a' kd' ks := by
  obtain ⟨dy, kvs, h1, h2, h3⟩ := h
  exact ⟨dy, kvs, s _ _ n h1, s _ _ (ne_of h2 hk (by intro z; cases z)) h2, h3.imp fun v t ⟨b, e, q⟩ => ⟨b, e, ThAt.butS hk s q⟩⟩
theorem WellAt.butO {wa : Addr} {c : Int} (h : WellAt H wa c) (n : wa ≠ m) (s : But m H H') : WellAt H' wa c := by
  obtain ⟨u0, u1, u2, e, q⟩ := h
  exact ⟨u0, u1, u2, s _ _ n e, q⟩
end
/-! ### pairs in a list -/
theorem its_pairs {H : Hp} : ∀ {vs : List V} {l : Fls}, Paired (ItAt H) vs l → ∃ (ps : List Addr) (kvs : List (Key × V)), vs = ps.map V.ref ∧ Paired (fun (p : Addr) (kv : Key × V) => H p = some (.tup [kV kv.1, kv.2])) ps kvs ∧ DR (PairAt H) kvs l
  | _, _, .nil => ⟨[], [], rfl, .nil, .nil⟩
  | _, e :: _, .cons h r => by
    obtain ⟨t, u, rfl, e2, e3⟩ := h
    obtain ⟨ps, kvs, rfl, q1, q2⟩ := its_pairs r
    exact ⟨t :: ps, (.inr e.1, u) :: kvs, rfl, .cons e2 q1, .cons ⟨rfl, e3⟩ q2⟩
theorem paired_rev {α β : Type} {F : α → β → Prop} : ∀ {l : List α} {m : List β}, Paired F l m → Paired F l.reverse m.reverse
  | _, _, .nil => .nil
  | _, _, .cons h r => by
    rw [List.reverse_cons, List.reverse_cons]
    exact paired_snoc h (paired_rev r)
theorem merge_nodup : ∀ {more k0 : List (Key × V)}, ((k0 ++ more).map (·.1)).Nodup → mergeK k0 more = k0 ++ more
  | [], k0, _ => by rw [List.append_nil]; rfl
  | p :: more, k0, n => by
    have h : valV k0 p.1 = none := by
      cases c : valV k0 p.1 with
      | none => rfl
      | some v =>
        have hm : p.1 ∈ k0.map (·.1) := by
          unfold valV at c
          obtain ⟨q, hq, _⟩ := Option.map_eq_some_iff.mp c
          have := List.find?_some hq
          exact List.mem_map.mpr ⟨q, List.mem_of_find?_eq_some hq, of_decide_eq_true this⟩
        rw [List.map_append, List.nodup_append] at n
        exact absurd rfl (n.2.2 p.1 hm p.1 (by simp))
    show mergeK (putK k0 p.1 p.2) more = _
    rw [putK_new _ h, merge_nodup (by rw [List.append_assoc]; exact n), List.append_assoc]
    rfl
/-! ### the same files in another order -/
theorem perm_of {l m : Fls} (n1 : (l.map (·.1)).Nodup) (n2 : (m.map (·.1)).Nodup) (h : ∀ e, e ∈ l ↔ e ∈ m) : l.Perm m := (List.perm_ext_iff_of_nodup (nodup_of_keys n1) (nodup_of_keys n2)).mpr h
theorem valS_congr {l m : Fls} (n1 : (l.map (·.1)).Nodup) (n2 : (m.map (·.1)).Nodup) (h : ∀ e, e ∈ l ↔ e ∈ m) (k : Str) : valS l k = valS m k := by
  cases c : valS m k with
  | none =>
    cases c1 : valS l k with
    | none => rfl
    | some v =>
      have := valS_of_mem n2 ((h _).mp (valS_some c1))
      rw [c] at this
      cases this
  | some v => exact valS_of_mem n1 ((h _).mpr (valS_some c))
theorem rowsOf_congr {l m : Fls} (n1 : (l.map (·.1)).Nodup) (n2 : (m.map (·.1)).Nodup) (h : ∀ e, e ∈ l ↔ e ∈ m) : rowsOf l = rowsOf m := by
  unfold rowsOf
  rw [srt_of_perm ((perm_of n1 n2 h).map _)]
  congr 1
  funext z
  rw [valS_congr n1 n2 h]
theorem LFiles.congr {A : List Str} {k : Nat} {l m : Fls} (h : LFiles A k l) (n : (m.map (·.1)).Nodup) (e : ∀ x, x ∈ m → x ∈ l) : LFiles A k m :=
  ⟨n, fun f hf => h.seg f (e f hf), fun f hf g hg => h.pre f (e f hf) g (e g hg), fun f hf => h.val f (e f hf)⟩
theorem kept_of {A : List Str} {k : Nat} {l : Fls} (h : LFiles A k l) : ((ents l).reverse.map (·.1)).Nodup ∧ ∀ e, e ∈ (ents l).reverse ↔ e ∈ l := by
  refine ⟨?_, fun e => by rw [List.mem_reverse]; exact mem_ents h.nd⟩
  rw [List.map_reverse, (List.reverse_perm _).nodup_iff, ents_keys h.nd]
  exact srt_nodup h.nd
/-! ### stores filled -/
theorem putAll_nodup : ∀ {l : List Th} {ks : List (Str × Th)}, (ks.map (·.1)).Nodup → ((putAll ks l).map (·.1)).Nodup
  | [], _, h => h
  | _ :: l, _, h => putAll_nodup (l := l) (putS_nodup h)
theorem putAll_val {U : Th → Prop} (i : Inj U) : ∀ {l : List Th} {ks : List (Str × Th)}, (∀ t ∈ l, U t) → ∀ t, U t → (t ∈ l ∨ valS ks (hid t) = some t) → valS (putAll ks l) (hid t) = some t
  | [], _, _, t, _, h => by
    rcases h with h | h
    · cases h
    · exact h
  | x :: l, ks, hU, t, ht, h => by
    show valS (putAll (putS ks (hid x) x) l) (hid t) = some t
    refine putAll_val i (fun t h => hU t (List.mem_cons_of_mem _ h)) t ht ?_
    rcases h with h | h
    · rcases List.mem_cons.mp h with rfl | h
      · exact .inr val_new
      · exact .inl h
    · exact .inr (val_keep i ht (hU x List.mem_cons_self) h)
theorem putAll_keys {U : Th → Prop} (i : Inj U) : ∀ {l : List Th} {ks : List (Str × Th)}, (∀ t ∈ l, U t) → (∀ t ∈ l, valS ks (hid t) = some t) → (putAll ks l).map (·.1) = ks.map (·.1)
  | [], _, _, _ => rfl
  | x :: l, ks, hU, h => by
    show (putAll (putS ks (hid x) x) l).map (·.1) = _
    rw [putAll_keys i (fun t h => hU t (List.mem_cons_of_mem _ h)) (fun t ht => val_keep i (hU t (List.mem_cons_of_mem _ ht)) (hU x List.mem_cons_self) (h t (List.mem_cons_of_mem _ ht)))]
    exact keys_put_old (h x List.mem_cons_self)
theorem trees_good : ∀ {n : Nat} {R : List Row}, ROk n R → ∀ t ∈ trees n R, ThGood t
  | 0, R, h, t, ht => by
    rw [show trees 0 R = [.tree (held 0 R)] from rfl, List.mem_singleton] at ht
    rw [ht]
    exact held_ok h
  | n + 1, R, h, t, ht => by
    rw [show trees (n + 1) R = ((dirs R).flatMap fun s => trees n (sub R s)) ++ [.tree (held (n + 1) R)] from rfl] at ht
    rcases List.mem_append.mp ht with ht | ht
    · obtain ⟨s, hs, ht⟩ := List.mem_flatMap.mp ht
      exact trees_good (h.2.2 s hs) t ht
    · rw [List.mem_singleton.mp ht]
      exact held_ok h
/-- the rows of files, told by their files -/
theorem rows_iff {fs : Fls} (h : LFiles alph7 5 fs) (e : Str × (Str × Str)) : (∃ r ∈ rowsOf fs, e = (jn r.1, r.2)) ↔ e ∈ fs := by
  constructor
  · rintro ⟨r, hr, rfl⟩
    exact ((rows_mem alph7_nosl h).mp (show (r.1, r.2) ∈ rowsOf fs from hr)).2.2.2
  · intro he
    obtain ⟨sg, e1, g1, g2, g3⟩ := h.seg e he
    exact ⟨(sg, e.2), (rows_mem alph7_nosl h).mpr ⟨g1, g3, g2, by rw [← e1]; exact he⟩, by rw [← e1]⟩
end FK

/-! Forkhaul k08: law. -/
namespace FK
open PySem PySem.Spec PyProof.Rows L2 TL
open PySem.W (Frag)
section
variable {P : Program} {w : World} {K : Frag} {mg : Str → Option Value} {base : Heap}
def spLaw (K : Frag) : Sp := fun vs H Q _ => ∃ (a : Addr) (ns : List Int), vs = [.ref a] ∧ SqL K H a (ns.map V.int) ∧ Only H ∧ ns.length ≤ 63 ∧ ∀ H', Q (.bl true) H'
abbrev nLaw : List Str := ["_law_script", "_law_cell", "_law_well_here", "_law_stores", "_law_files_here", "_law_kept", "_law_turned", "_law_things", "_law_names", "_law_store", "_law_told", "_law_path_here"]
theorem scLaw : FnScope nLaw ["_law_script"] (defScope sLaw) := ⟨rfl, rfl, rfl, by decide +kernel, rfl, by decide +kernel, by decide +kernel⟩
theorem ok_law (F : GF K mg "law" sLaw) (GA : Cal P w K mg base CX0 1 "_law_cell_at" ["_law_script", "_law_k"] (spCellAt K)) (GW : Cal P w K mg base CX0 1 "_law_well" ["_law_cell"] spWell) (M : MkS P w K mg base 1)
    (GL : Cal P w K mg base CX0 3 "_law_id" ["_law_well_here"] spLid) (GF4 : Cal P w K mg base CX0 4 "_law_files" ["_law_well_here", "_law_most", "_law_ids"] spLFiles) (G2 : Cal P w K mg base CX0 3 "_law_twice" ["_law_well_here", "_law_files_here", "_law_last"] spTwice)
    (GTr : Cal P w K mg base (L2.CX P w) 11 "_law_trees" ["_law_files_here", "_law_front", "_law_found"] (spTrees K 5)) (GC : Cal P w K mg base CX0 6 "_law_clash" ["_law_things"] (spLClash K))
    (GP : CalF P w K mg base (L2.CX P w) 12 (mAt K (ca K "Store") "put_files") ["self", "files"] (spPutF K 4)) (mP : Meth K (ca K "Store") "put_files" (mAt K (ca K "Store") "put_files"))
    (GI : CalF P w K mg base CX0 1 (mAt K (ca K "Store") "ids") ["self"] (spSIds K)) (mI : Meth K (ca K "Store") "ids" (mAt K (ca K "Store") "ids"))
    (GFo : CalF P w K mg base (L2.CX P w) 6 (mAt K (ca K "Store") "files_of") ["self", "name"] (spFiles K)) (mF : Meth K (ca K "Store") "files_of" (mAt K (ca K "Store") "files_of"))
    (GR : Cal P w K mg base CX0 11 "_law_tree_right" ["_law_store", "_law_name", "_law_files_here", "_law_front"] (spTR K 5))
    (GRef : Cal P w K mg base CX0 14 "_law_refused_right" ["_law_well_here", "_law_store", "_law_files_here"] (spRef K)) (GH : CalG P w K mg base 8 "_law_hand_right" ["_law_well_here", "_law_store", "_law_root", "_law_things"] (spHand K)) (T : Kit K mg) :
    CalG P w K mg base 15 "law" ["_law_script"] (spLaw K) := by
  refine calG0 F scLaw (fun _ _ _ _ _ _ us hl => match us, hl with | [_], _ => rfl) (fun vs H Q E h => ?_) (fun cdv A outer s H vs Q hgd hr h => ?_)
  · obtain ⟨a, ns, rfl, _⟩ := h
    rfl
  · obtain ⟨a, ns, rfl, hsq, hon, hns, kQ⟩ := h
    have B := T.fr
    obtain ⟨fdS, dsS, gS, oS, hbS, hdS, hKS⟩ := M
    refine ⟨_, (pss_cons (ps_for (g := gName 1) PassesOwn.never rfl (pi_list (pe_op op_cat (pe_lst (pa_cons (pcal (GA.mono (by decide : 1 ≤ 14)) hr (by rfl) pass0 (pa_cons (pv 0) (pa_cons pe_int pa_nil))) pa_nil)) (pe_slice sl_list (pv 0) (po_some pe_int) (po_some pe_int)))) (pg_name (i := 1) scLaw.nd rfl (Or.inl rfl)) (pss_cons (ps_set (i := 2) scLaw.nd rfl (Or.inl rfl) (pcal (GW.mono (by decide : 1 ≤ 14)) hr (by rfl) pass0 (pa_cons (pv 1) pa_nil)))
        (pss_cons (ps_set (i := 3) scLaw.nd rfl (Or.inl rfl) (pe_lst (pa_cons (pe_make0 T.mkS oS (hr.mono (by decide : 2 ≤ 14)) (by rfl) T.gS hbS hdS pass0) (pa_cons (pe_make0 T.mkS oS (hr.mono (by decide : 2 ≤ 14)) (by rfl) T.gS hbS hdS pass0) pa_nil))))
        (pss_cons (ps_set (i := 4) scLaw.nd rfl (Or.inr rfl) (pcal (GF4.mono (by decide : 4 ≤ 14)) hr (by rfl) pass0 (pa_cons (pv 2) (pa_cons pe_int (pa_cons (pe_lst (pa_cons (pe_op op_mulS pe_str pe_int) (pa_cons (pe_op op_mulS pe_str pe_int) (pa_cons (pcal (GL.mono (by decide : 3 ≤ 14)) hr (by rfl) pass0 (pa_cons (pv 2) pa_nil)) pa_nil)))) pa_nil)))))
        (pss_cons (ps_set (i := 4) scLaw.nd rfl (Or.inr rfl) (pcal (G2.mono (by decide : 3 ≤ 14)) hr (by rfl) pass0 (pa_cons (pv 2) (pa_cons (pv 4) (pa_cons (pv 4) pa_nil)))))
        (pss_cons (ps_setLc (i := 5) (own := [("_law_path_here", 11)]) (g := gName 11) (tt := tYes) rfl scLaw.nd rfl rfl (sw_true rfl rfl rfl rfl) (pi_list (pe_callB (call_sortedDA rfl) (by rfl) B.sorted (by decide +kernel) (pa_cons (pv 4) pa_nil))) (blkOk_by (N := nLaw) (sc := defScope sLaw) (by decide +kernel)) (fun _ _ _ _ _ => (pg_name (i := 11) scLaw.nd rfl (Or.inl rfl))) (fun _ _ _ _ _ => pts_nil) (fun _ _ _ _ _ => (pe_tup (pa_cons (pv 11) (pa_cons (pe_dget (hu_of hr) (pv 4) (pv 11) (by intro _ _; rfl)) pa_nil)))))
        (pss_cons (ps_set (i := 6) scLaw.nd rfl (Or.inl rfl) (pe_callTy (call_dictP rfl) (by rfl) B.dict (by decide +kernel) (pa_cons (pe_revL (pv 5)) pa_nil)))
        (pss_cons (ps_set (i := 7) scLaw.nd rfl (Or.inl rfl) (pe_lst pa_nil))
        (pss_cons (ps_expr (pcal (E := E0) (GTr.mono (by decide : 11 ≤ 14)) hr (by rfl) passF (pa_cons (pv 4) (pa_cons pe_str (pa_cons (pv 7) pa_nil)))))
        (pss_cons (ps_if (pt_val (pcal (GC.mono (by decide : 6 ≤ 14)) hr (by rfl) pass0 (pa_cons (pv 7) pa_nil))) (pss_one ps_continue) pss_nil)
        (pss_cons (ps_set (i := 8) scLaw.nd rfl (Or.inl rfl) (pe_lst (pa_cons (pmeth (E := E0) (GP.mono (by decide : 12 ≤ 14)) (pe_ix ix_list (pv 3) pe_int (by intro _ _; rfl)) T.cS mP hr passF (pa_cons (pv 4) pa_nil)) (pa_cons (pmeth (E := E0) (GP.mono (by decide : 12 ≤ 14)) (pe_ix ix_list (pv 3) pe_int (by intro _ _; rfl)) T.cS mP hr passF (pa_cons (pv 6) pa_nil)) (pa_cons (pmeth (E := E0) (GP.mono (by decide : 12 ≤ 14)) (pe_ix ix_list (pv 3) pe_int (by intro _ _; rfl)) T.cS mP hr passF (pa_cons (pv 6) pa_nil)) pa_nil)))))
        (pss_cons (ps_if (PW.pt (pw_or (pt_cmpR (op_neD hr.units) (pv 8) (pe_op op_rep (pe_lst (pa_cons (pe_ix ix_list (pv 8) pe_int (by intro _ _; rfl)) pa_nil)) pe_int) (nomark _)) (pw_or (pt_cmpR (op_neD hr.units) (pmeth0 (E := E0) (GI.mono (by decide : 1 ≤ 14)) (pe_ix ix_list (pv 3) pe_int (by intro _ _; rfl)) T.cS mI hr pass0) (pmeth0 (E := E0) (GI.mono (by decide : 1 ≤ 14)) (pe_ix ix_list (pv 3) pe_int (by intro _ _; rfl)) T.cS mI hr pass0) (nomark _)) (pw_or1 (pt_cmpR (op_ne_dictR hr.units0) (pe_callTy (call_dictP rfl) (by rfl) B.dict (by decide +kernel) (pa_cons (pv 5) pa_nil)) (pv 4) (nomark _)))))) (pss_one (ps_ret pe_bl)) pss_nil)
        (pss_cons (ps_for (g := gName 9) PassesOwn.never rfl (pi_list (pv 3)) (pg_name (i := 9) scLaw.nd rfl (Or.inl rfl)) (pss_cons (ps_set (i := 10) scLaw.nd rfl (Or.inl rfl) (pmeth (E := E0) (GFo.mono (by decide : 6 ≤ 14)) (pv 9) T.cS mF hr passF (pa_cons (pe_ix ix_list (pv 8) pe_int (by intro _ _; rfl)) pa_nil)))
        (pss_cons (ps_if (PW.pt (pw_or (pt_cmpR (op_neD hr.units) (LiI.pe_listItems rfl (pv 10) (by rfl) B.list (by decide +kernel)) (pv 5) (nomark _)) (pw_or1 (pt_not (pt_val (pcal (GR.mono (by decide : 11 ≤ 14)) hr (by rfl) pass0 (pa_cons (pv 9) (pa_cons (pe_ix ix_list (pv 8) pe_int (by intro _ _; rfl)) (pa_cons (pv 4) (pa_cons pe_str pa_nil)))))))))) (pss_one (ps_ret pe_bl)) pss_nil)
        (pss_cons (ps_expr (pe_dclear (pv 10)))
        (pss_one (ps_if (pt_cmpR (op_neD hr.units) (LiI.pe_listItems rfl (pmeth (E := E0) (GFo.mono (by decide : 6 ≤ 14)) (pv 9) T.cS mF hr passF (pa_cons (pe_ix ix_list (pv 8) pe_int (by intro _ _; rfl)) pa_nil)) (by rfl) B.list (by decide +kernel)) (pv 5) (nomark _)) (pss_one (ps_ret pe_bl)) pss_nil))))))
        (pss_one (ps_if (PW.pt (pw_or (pt_not (pt_val (pcal GRef hr (by rfl) pass0 (pa_cons (pv 2) (pa_cons (pe_ix ix_list (pv 3) pe_int (by intro _ _; rfl)) (pa_cons (pv 4) pa_nil)))))) (pw_or1 (pt_not (pt_val (pcalG GH hgd (hr.mono (by decide : 8 ≤ 14)) (by rfl) (pa_cons (pv 2) (pa_cons (pe_ix ix_list (pv 3) pe_int (by intro _ _; rfl)) (pa_cons (pe_ix ix_list (pv 8) pe_int (by intro _ _; rfl)) (pa_cons (pv 7) pa_nil)))))))))) (pss_one (ps_ret pe_bl)) pss_nil)))))))))))))))
        (pss_one (ps_ret pe_bl))), ?_⟩
    refine ⟨_, rfl, a, ns, rfl, hsq, fun z0 => ⟨(by show 1 ≤ sizeLine; exact line_of (by decide)), fun LA hLA => ?_⟩⟩
    obtain ⟨sLA, eLA⟩ := new_at (.lst [.int z0]) hLA
    refine ⟨_, rfl, 1, rfl, 6, rfl, a, _, rfl, sLA.seq hsq, fun LB hLB => ?_⟩
    obtain ⟨sLB, eLB⟩ := new_at (.lst (cutV (ns.map V.int) (some 1) (some 6))) hLB
    have hcut : ∀ x ∈ cutV (ns.map V.int) (some 1) (some 6), ∃ i, x = V.int i := fun x hx => by
      have := List.mem_of_mem_drop (List.mem_of_mem_take hx)
      obtain ⟨i, _, e⟩ := List.mem_map.mp this
      exact ⟨i, e.symm⟩
    have hcl : (cutV (ns.map V.int) (some 1) (some 6)).length ≤ 63 := by
      unfold cutV
      refine Nat.le_trans (List.length_take_le' _ _) (Nat.le_trans (by rw [List.length_drop]; exact Nat.sub_le _ _) ?_)
      rw [List.length_map]
      exact hns
    generalize cutV (ns.map V.int) (some 1) (some 6) = cs at *
    refine ⟨LA, LB, _, _, rfl, rfl, sLB _ _ eLA, eLB, line_of (by show 1 + cs.length ≤ 100000; omega), fun LC hLC => ?_⟩
    obtain ⟨sLC, eLC⟩ := new_at (.lst ([V.int z0] ++ cs)) hLC
    have hint : ∀ x ∈ [V.int z0] ++ cs, ∃ i, x = V.int i := fun x hx => by
      rcases List.mem_append.mp hx with h | h
      · exact ⟨z0, List.mem_singleton.mp h⟩
      · exact hcut x h
    generalize [V.int z0] ++ cs = ws at *
    refine ⟨LC, rfl, ⟨_, SqL.of eLC⟩, for_list (xs := ws) (fun i σ H' => (∃ x1 x2 x3 x4 x5 x6 x7 x8 x9 x10, σ = [some (.ref a), x1, x2, x3, x4, x5, x6, x7, x8, x9, x10, none]) ∧ H' LC = some (.lst ws)) ?_ ?_ ?_ ?_⟩
    · exact ⟨⟨_, _, _, _, _, _, _, _, _, _, rfl⟩, eLC⟩
    · exact fun i σ H' _ z => SqL.of z.2
    rotate_left
    · rintro σ H' ⟨⟨x1, x2, x3, x4, x5, x6, x7, x8, x9, x10, rfl⟩, _⟩
      exact kQ H'
    rintro i x σ H0 hx ⟨⟨x1, x2, x3, x4, x5, x6, x7, x8, x9, x10, rfl⟩, eC⟩
    obtain ⟨c, rfl⟩ := hint x (List.mem_of_getElem? hx)
    clear hLC sLC eLC hLB sLB eLB hLA sLA eLA hint hcl hcut
    -- the well, the stores
    refine ⟨_, rfl, c, rfl, fun H1 wa s1 hwa hw1 => ?_⟩
    intro a1 dxa ha1 hdxa hna
    have q1 := fresh2 ha1 hdxa hna (.own a1) (.ins (ca K "Store") dxa [])
    refine ⟨a1, dxa, rfl, upd_same, fun H2 kd1 k1 hkd1 e1a e1k => ⟨rfl, ?_⟩⟩
    have s12 : Same H1 H2 := fun b o e => k1 b o (ne_of_none e ha1) (q1 _ _ e)
    have st1 : StAt K H2 a1 kd1 [] := ⟨dxa, [], e1a, e1k, .nil⟩
    intro a2 dxb ha2 hdxb hnb
    have q2 := fresh2 ha2 hdxb hnb (.own a2) (.ins (ca K "Store") dxb [])
    refine ⟨a2, dxb, rfl, upd_same, fun H3 kd2 k2 hkd2 e2a e2k => ⟨rfl, ?_⟩⟩
    have s23 : Same H2 H3 := fun b o e => k2 b o (ne_of_none e ha2) (q2 _ _ e)
    have st2 : StAt K H3 a2 kd2 [] := ⟨dxb, [], e2a, e2k, .nil⟩
    have n12 : a1 ≠ a2 := (ne_of_none' ha2 e1a).symm
    replace st1 := st1.same s23
    refine ⟨(by show 2 ≤ sizeLine; exact line_of (by decide)), fun LS hLS => ?_⟩
    obtain ⟨sLS, eLS⟩ := new_at (.lst [.ref a1, .ref a2]) hLS
    have s13 := s12.trans (s23.trans sLS)
    have hw4 := hw1.same s13
    replace st1 := st1.same sLS
    replace st2 := st2.same sLS
    have s04 := s1.trans s13
    obtain ⟨wl1, hwl1⟩ := hw1.lst
    have nLS : LS ≠ wa := ne_of_none' hLS (s23 _ _ (s12 _ _ hwl1))
    have na10 : H0 a1 = none := s1.free ha1
    have na20 : H0 a2 = none := s1.free (s12.free ha2)
    have nka1 : H0 kd1 = none := by
      refine s1.free ?_
      exact q1.free hkd1
    clear hLS sLS k1 k2 hkd1 hkd2 e1a e1k e2a e2k q1 q2 s12 s23 ha1 ha2 hdxa hdxb hna hnb
    generalize upd H3 LS _ = H4 at *
    -- the files
    have hwa0 : H0 wa = none := hwa
    have hwl4 := s13 _ _ hwl1
    refine ⟨_, rfl, 48, 16, (by decide +kernel), rfl, (by decide), (by decide), 49, 16, (by decide +kernel), rfl, (by decide), (by decide), _, rfl, wa, 0, rfl, hw4, by omega, by omega, fun H5 zi b45 hw5 hzi => ⟨(by show 3 ≤ sizeLine; exact line_of (by decide)), fun LI hLI => ?_⟩⟩
    obtain ⟨sLI, eLI⟩ := new_at (.lst [.str ⟨(List.replicate 16 #[48]).foldl (· ++ ·) #[]⟩, .str ⟨(List.replicate 16 #[49]).foldl (· ++ ·) #[]⟩, .str zi]) hLI
    obtain ⟨wl5, hwl5⟩ := hw5.lst
    have nLI : LI ≠ wa := ne_of_none' hLI hwl5
    refine ⟨wa, LI, 0 + 17, [⟨(List.replicate 16 #[48]).foldl (· ++ ·) #[]⟩, ⟨(List.replicate 16 #[49]).foldl (· ++ ·) #[]⟩, zi], rfl, hw5.same sLI, by omega, by omega, eLI, nLI, (by show 0 < 3; decide), (by show 3 ≤ 10; decide), fun z hz => ?_, fun H6 d fs b56 hw6 hd0 hfd hlf hfl => ?_⟩
    · rcases List.mem_cons.mp hz with rfl | hz
      · decide +kernel
      · rcases List.mem_cons.mp hz with rfl | hz
        · decide +kernel
        · rw [List.mem_singleton.mp hz]; exact hzi
    have b46 : But wa H4 H6 := fun y o n q => b56 _ _ n (sLI _ _ (b45 _ _ n q))
    obtain ⟨wl6, hwl6⟩ := hw6.lst
    refine ⟨_, rfl, _, rfl, _, rfl, wa, d, 0 + 17 + 200, fs, rfl, hw6, by omega, by omega, hfd, hlf, hfl, fun H7 e G b67 hw7 he0 hfe hlg hGl => ?_⟩
    have b47 : But wa H4 H7 := fun y o n q => b67 _ _ n (b46 _ _ n q)
    have s07 : Same H0 H7 := b47.same s04 hwa0
    replace st1 := StAt.butL hwl4 b47 st1
    replace st2 := StAt.butL hwl4 b47 st2
    replace eLS := b47 _ _ nLS eLS
    clear hLI sLI eLI hd0 hfd b45 b56 b67 b46 hw5 hw6 hw4 hw1
    obtain ⟨ekv, hfe7, fed⟩ := hfe
    -- kept
    have hfo : FilesOk G := files_ok (n := 4) (by decide) hlg hGl
    refine ⟨_, rfl, e, ekv, G.map (·.1), rfl, .inl hfe7, fed.keys, by rw [List.length_map]; omega, fun ys SL hp2 hso2 hSL => ?_⟩
    obtain rfl := srt_unique hp2 hso2
    obtain ⟨sSL, eSL⟩ := new_at (.lst ((srt (G.map (·.1))).map V.str)) hSL
    obtain ⟨eg1, eg2⟩ := ents_get hlg.nd
    refine ⟨SL, rfl, ⟨_, SqL.of eSL⟩, fun D hD => lc_list (K := K) (a := SL) (xs := (srt (G.map (·.1))).map V.str) (fun i H' => Same (upd H7 SL (.lst ((srt (G.map (·.1))).map V.str))) H' ∧ ∃ (ps : List Addr) (bkv : List (Key × V)), H' D = some (.lst (ps.map V.ref)) ∧ Paired (fun p kv => H' p = some (.tup [kV kv.1, kv.2])) ps bkv ∧ DR (PairAt H') bkv ((ents G).take i) ∧ ∀ q ∈ bkv, valV ekv q.1 = some q.2)
      ⟨Same.new hD, [], [], upd_same, .nil, .nil, fun q hq => (by cases hq)⟩ (fun i H' _ q => SqL.of (q.1 _ _ eSL)) ?_ ?_⟩
    · rintro i y H8 hy ⟨s8, ps, bkv, l8, p8, d8, v8⟩
      obtain ⟨z, hz, rfl⟩ : ∃ z, (srt (G.map (·.1)))[i]? = some z ∧ y = V.str z := by
        rw [List.getElem?_map] at hy
        cases e : (srt (G.map (·.1)))[i]? with
        | none => rw [e] at hy; cases hy
        | some z => rw [e] at hy; exact ⟨z, rfl, (Option.some.inj hy).symm⟩
      obtain ⟨pr, hpr, hrow⟩ := eg2 i z hz
      obtain ⟨v, hv, hpa⟩ := fed.val_some hpr
      have s78 := sSL.trans s8
      refine ⟨rfl, _, rfl, _, rfl, _, rfl, e, v, rfl, .inl ⟨ekv, .inr z, .inl (s78 _ _ hfe7), rfl, hv.symm⟩, (by show 2 ≤ sizeLine; exact line_of (by decide)), fun T0 hT0 => ?_⟩
      obtain ⟨sT0, eT0⟩ := new_at (.tup [.str z, v]) hT0
      have l9 := sT0 _ _ l8
      have hpl : ps.length ≤ 80 := by
        rw [paired_len p8, d8.len]
        refine Nat.le_trans (List.length_take_le' _ _) ?_
        rw [eg1]
        exact hGl
      have nD : ∀ {c : Addr} {o : HO}, (upd H8 T0 (.tup [.str z, v])) c = some o → (∀ xs, o ≠ .lst xs) → (upd (upd H8 T0 (.tup [.str z, v])) D (.lst (ps.map V.ref ++ [.ref T0]))) c = some o := fun h hn => by
        rw [upd_ne (ne_of h l9 (hn _))]; exact h
      refine ⟨_, l9, by rw [List.length_map]; exact line_lt (by omega), (s8.trans sT0).mut hD, ps ++ [T0], bkv ++ [(.inr z, v)], by rw [upd_same, List.map_append]; rfl, ?_, ?_, ?_⟩
      · refine paired_snoc (a := T0) (b := ((.inr z, v) : Key × V)) (F := fun (p : Addr) (kv : Key × V) => (upd (upd H8 T0 (.tup [.str z, v])) D (.lst (ps.map V.ref ++ [.ref T0]))) p = some (.tup [kV kv.1, kv.2])) (nD eT0 (by intro _ z; cases z)) ?_
        exact L2.Paired.mapP p8 fun _ _ q => nD (sT0 _ _ q) (by intro _ z; cases z)
      · rw [List.take_add_one, hrow]
        refine paired_snoc (F := fun (p : Key × V) (f : Str × (Str × Str)) => p.1 = .inr f.1 ∧ PairAt _ p.2 f.2) ⟨rfl, PairAt.mut (u := .lst (ps.map V.ref)) ((hpa.same s78).same sT0) l9 (by intro _ z; cases z)⟩ (d8.imp fun v p q => PairAt.mut (u := .lst (ps.map V.ref)) (q.same sT0) l9 (by intro _ z; cases z))
      · intro q hq
        rcases List.mem_append.mp hq with hq | hq
        · exact v8 q hq
        · rw [List.mem_singleton.mp hq]
          exact hv
    rintro H8 ⟨s8, ps, bkv, l8, p8, d8, v8⟩
    rw [List.length_map, srt_len, List.length_map, List.take_of_length_le (Nat.le_of_eq eg1)] at d8
    have s78 := sSL.trans s8
    clear hSL sSL eSL s8
    -- turned
    refine ⟨_, rfl, D, _, rfl, SqL.of l8, fun RL hRL => ?_⟩
    obtain ⟨sRL, eRL⟩ := new_at (.lst (ps.map V.ref).reverse) hRL
    refine ⟨RL, ps.reverse, bkv.reverse, rfl, SqL.of (by rw [List.map_reverse]; exact eRL), paired_rev (L2.Paired.mapP p8 fun _ _ q => SqT.of (sRL _ _ q)), fun td htd => ?_⟩
    obtain ⟨kn, kmem⟩ := kept_of hlg
    have dtd := merge_dr kn (paired_rev (d8.imp fun v p q => q.same (H' := upd (upd H8 RL (.lst (ps.map V.ref).reverse)) td (.dK (mergeK [] bkv.reverse))) (sRL.trans (Same.new htd))))
    obtain ⟨std_, etd⟩ := new_at (.dK (mergeK [] bkv.reverse)) htd
    generalize mergeK [] bkv.reverse = tkv at *
    have s89 := sRL.trans std_
    clear htd hRL sRL eRL std_
    generalize upd (upd H8 RL _) td _ = H9 at *
    refine ⟨Nat.zero_le _, fun TL hTL => ?_⟩
    obtain ⟨sTL, eTL⟩ := new_at (.lst []) hTL
    have s7t := s78.trans (s89.trans sTL)
    have nTL0 : H0 TL = none := (s07.trans (s78.trans s89)).free hTL
    have nTLw : TL ≠ wa := by
      obtain ⟨wl7, hwl7⟩ := hw7.lst
      exact ne_of_none' hTL (s89 _ _ (s78 _ _ hwl7))
    have nTLs : LS ≠ TL := (ne_of_none' hTL (s89 _ _ (s78 _ _ eLS))).symm
    have nTLd : D ≠ TL := (ne_of_none' hTL (s89 _ _ l8)).symm
    have s0t : Same H0 _ := s07.trans s7t
    replace hwt := hw7.same s7t
    replace st1 := st1.same s7t
    replace st2 := st2.same s7t
    replace eLS := s7t _ _ eLS
    replace het := s7t _ _ hfe7
    have fedt : DR (PairAt _) ekv G := fed.imp fun v p q => q.same s7t
    replace ltd := sTL _ _ etd
    replace dtdt := dtd.imp fun v p q => q.same sTL
    replace lD := sTL _ _ (s89 _ _ l8)
    replace pD := L2.Paired.mapP p8 fun _ _ q => sTL _ _ (s89 _ _ q)
    replace dD := d8.imp fun v p q => (q.same s89).same sTL
    clear hTL sTL s89 dtd etd s78 l8 p8 d8 hfe7 fed hw7
    generalize upd H9 TL _ = H10 at *
    -- the trees
    have hRG : RG 4 (rowsOf G) := rows_good hlg hGl
    have hRO : ROk 4 (rowsOf G) := RG.ok (by decide) hRG
    have hdown : down (rowsOf G) [] = rowsOf G := down_nil fun r hr => (hRG.seg r hr).1
    have htc : (trees 4 (rowsOf G)).length ≤ 2801 := Nat.le_trans (RG.trees hRG) (by decide +kernel)
    have hRl : (rowsOf G).length ≤ 80 := by rw [(rows_get G).1]; exact hGl
    generalize hN : tSeq (tDrop (tCall (spTrees _ _) _ _ _)) _ _ = N
    suffices tail : N [some (.ref a), some (.int c), some (.ref wa), some (.ref LS), some (.ref e), some (.ref D), some (.ref td), some (.ref TL), x8, x9, x10, none] H10 from tail
    rw [← hN]
    refine ⟨_, rfl, _, rfl, e, TL, G, [], [], [], by rw [fr_nil]; rfl, ⟨ekv, het, fedt⟩, hlg, hGl, (fun s hs => by cases hs), by decide, by rw [hdown]; exact hRO, eTL, .nil, by rw [hdown]; show 0 + (trees 4 (rowsOf G)).length ≤ 3000; omega, fun H11 vs1 b11 eTL1 hth => ?_⟩
    rw [hdown] at hth
    replace s0 := But.same s0t b11 nTL0
    replace st1 := StAt.butL eTL b11 st1
    replace st2 := StAt.butL eTL b11 st2
    replace eLS := b11 _ _ nTLs eLS
    replace lD := b11 _ _ nTLd lD
    replace pD := L2.Paired.mapP pD fun _ _ q => b11 _ _ (ne_of q eTL (by intro z; cases z)) q
    replace dD := dD.imp fun v p q => q.butO eTL (by intro _ z; cases z) b11
    replace het := b11 _ _ (ne_of het eTL (by intro z; cases z)) het
    replace fedt := fedt.imp fun v p q => q.butO eTL (by intro _ z; cases z) b11
    replace ltd := b11 _ _ (ne_of ltd eTL (by intro z; cases z)) ltd
    replace dtdt := dtdt.imp fun v p q => q.butO eTL (by intro _ z; cases z) b11
    replace hwt := hwt.butO nTLw.symm b11
    rw [List.nil_append] at hth
    clear b11 s0t eTL
    have hgood := trees_good hRO
    refine ⟨_, rfl, TL, vs1, trees 4 (rowsOf G), rfl, SqL.of eTL1, (fun H' s => SqL.of (s _ _ eTL1)), hth, hgood, by omega, fun bc H12 s12 hI => ⟨_, rfl, ite2 (fun _ => ⟨⟨_, _, _, _, _, _, _, _, _, _, rfl⟩, s12 _ _ (s0 _ _ eC)⟩) (fun hbc => ?_)⟩⟩
    have hinj := hI (by cases bc with | false => rfl | true => exact absurd rfl hbc)
    replace s0 := s0.trans s12
    replace st1 := st1.same s12
    replace st2 := st2.same s12
    replace eLS := s12 _ _ eLS
    replace lD := s12 _ _ lD
    replace pD := L2.Paired.mapP pD fun _ _ q => s12 _ _ q
    replace dD := dD.imp fun v p q => q.same s12
    replace het := s12 _ _ het
    replace fedt := fedt.imp fun v p q => q.same s12
    replace ltd := s12 _ _ ltd
    replace dtdt := dtdt.imp fun v p q => q.same s12
    replace hwt := hwt.same s12
    replace hth := L2.Paired.mapP hth fun _ _ q => ThV.same q s12
    replace eTL := s12 _ _ eTL1
    clear s12 eTL1 hI hbc
    -- put, three times
    have hfT : LFiles alph7 5 (ents G).reverse := hlg.congr kn fun x hx => (kmem x).mp hx
    have hlT : (ents G).reverse.length ≤ 80 := by rw [List.length_reverse, eg1]; exact hGl
    have hfoT : FilesOk (ents G).reverse := files_ok (n := 4) (by decide) hfT hlT
    have hrowT : rowsOf (ents G).reverse = rowsOf G := rowsOf_congr kn hlg.nd kmem
    obtain ⟨dx1, kv1, ha1, hk1, _⟩ := id st1
    refine ⟨_, rfl, LS, _, _, _, rfl, rfl, SqL.of eLS, rfl, a1, dx1, stF kd1, rfl, ha1, rfl, _, rfl, ?_⟩
    dsimp only [tNil]
    refine ⟨a1, kd1, [], .ref e, rfl, st1, by decide, .inl ⟨e, G, (· ∈ trees 4 (rowsOf G)), rfl, ⟨ekv, het, fedt⟩, hfo, (fun x hx => by cases hx), hinj, .inl ⟨hRO, fun t h => h, by omega, fun H13 kd1' b13 _ st1' => ?_⟩⟩⟩
    have b13 : But a1 H12 H13 := b13
    replace s0 := But.same s0 b13 na10
    replace st2 := StAt.butS ha1 n12.symm b13 st2
    replace st1 := st1'
    replace eLS := b13 _ _ (ne_of eLS ha1 (by intro z; cases z)) eLS
    replace lD := b13 _ _ (ne_of lD ha1 (by intro z; cases z)) lD
    replace pD := L2.Paired.mapP pD fun _ _ q => b13 _ _ (ne_of q ha1 (by intro z; cases z)) q
    replace dD := dD.imp fun v p q => q.butO ha1 (by intro _ z; cases z) b13
    replace het := b13 _ _ (ne_of het ha1 (by intro z; cases z)) het
    replace fedt := fedt.imp fun v p q => q.butO ha1 (by intro _ z; cases z) b13
    replace ltd := b13 _ _ (ne_of ltd ha1 (by intro z; cases z)) ltd
    replace dtdt := dtdt.imp fun v p q => q.butO ha1 (by intro _ z; cases z) b13
    replace hwt := hwt.butO (ne_of hwt.lst.choose_spec ha1 (by intro z; cases z)) b13
    replace hth := L2.Paired.mapP hth fun _ _ ⟨x, e, t⟩ => (⟨x, e, ThAt.butS ha1 b13 t⟩ : ThV K _ _ _)
    replace eTL := b13 _ _ (ne_of eTL ha1 (by intro z; cases z)) eTL
    clear b13 ha1 hk1 st1'
    -- the second
    obtain ⟨dx2, kv2, ha2, hk2, _⟩ := id st2
    refine ⟨_, rfl, LS, _, _, _, rfl, rfl, SqL.of eLS, rfl, a2, dx2, stF kd2, rfl, ha2, rfl, _, rfl, ?_⟩
    refine ⟨a2, kd2, [], .ref td, rfl, st2, by decide, .inl ⟨td, (ents G).reverse, (· ∈ trees 4 (rowsOf G)), rfl, ⟨tkv, ltd, dtdt⟩, hfoT, (fun x hx => by cases hx), hinj, .inl ⟨by rw [hrowT]; exact hRO, by rw [hrowT]; exact fun t h => h, by rw [hrowT]; omega, fun H14 kd2' b14 _ st2' => ?_⟩⟩⟩
    rw [hrowT] at st2' ⊢
    have b14 : But a2 H13 H14 := b14
    replace s0 := But.same s0 b14 na20
    replace st1 := StAt.butS ha2 n12 b14 st1
    replace st2 := st2'
    replace eLS := b14 _ _ (ne_of eLS ha2 (by intro z; cases z)) eLS
    replace lD := b14 _ _ (ne_of lD ha2 (by intro z; cases z)) lD
    replace pD := L2.Paired.mapP pD fun _ _ q => b14 _ _ (ne_of q ha2 (by intro z; cases z)) q
    replace dD := dD.imp fun v p q => q.butO ha2 (by intro _ z; cases z) b14
    replace het := b14 _ _ (ne_of het ha2 (by intro z; cases z)) het
    replace fedt := fedt.imp fun v p q => q.butO ha2 (by intro _ z; cases z) b14
    replace ltd := b14 _ _ (ne_of ltd ha2 (by intro z; cases z)) ltd
    replace dtdt := dtdt.imp fun v p q => q.butO ha2 (by intro _ z; cases z) b14
    replace hwt := hwt.butO (ne_of hwt.lst.choose_spec ha2 (by intro z; cases z)) b14
    replace hth := L2.Paired.mapP hth fun _ _ ⟨x, e, t⟩ => (⟨x, e, ThAt.butS ha2 b14 t⟩ : ThV K _ _ _)
    replace eTL := b14 _ _ (ne_of eTL ha2 (by intro z; cases z)) eTL
    clear b14 ha2 hk2 st2'
    -- the third
    have hok1 : KsOk (· ∈ trees 4 (rowsOf G)) (putAll [] (trees 4 (rowsOf G))) := KsOk.all (fun x hx => by cases hx) fun t h => h
    have hl1 := putAll_len (trees 4 (rowsOf G)) []
    have hl1 : (putAll [] (trees 4 (rowsOf G))).length ≤ 2801 := Nat.le_trans hl1 (by show 0 + (trees 4 (rowsOf G)).length ≤ 2801; omega)
    have hv1 : ∀ t ∈ trees 4 (rowsOf G), valS (putAll [] (trees 4 (rowsOf G))) (hid t) = some t := fun t h => putAll_val hinj (fun t h => h) t h (.inl h)
    obtain ⟨dx3, kv3, ha3, hk3, _⟩ := id st1
    refine ⟨_, rfl, LS, _, _, _, rfl, rfl, SqL.of eLS, rfl, a1, dx3, stF kd1', rfl, ha3, rfl, _, rfl, ?_⟩
    refine ⟨a1, kd1', _, .ref td, rfl, st1, by omega, .inl ⟨td, (ents G).reverse, (· ∈ trees 4 (rowsOf G)), rfl, ⟨tkv, ltd, dtdt⟩, hfoT, hok1, hinj, .inl ⟨by rw [hrowT]; exact hRO, by rw [hrowT]; exact fun t h => h, by rw [hrowT]; omega, fun H15 kd1x b15 _ st1' => ?_⟩⟩⟩
    rw [hrowT] at st1' ⊢
    have b15 : But a1 H14 H15 := b15
    replace s0 := But.same s0 b15 na10
    replace st2 := StAt.butS ha3 n12.symm b15 st2
    replace st1 := st1'
    replace eLS := b15 _ _ (ne_of eLS ha3 (by intro z; cases z)) eLS
    replace lD := b15 _ _ (ne_of lD ha3 (by intro z; cases z)) lD
    replace pD := L2.Paired.mapP pD fun _ _ q => b15 _ _ (ne_of q ha3 (by intro z; cases z)) q
    replace dD := dD.imp fun v p q => q.butO ha3 (by intro _ z; cases z) b15
    replace het := b15 _ _ (ne_of het ha3 (by intro z; cases z)) het
    replace fedt := fedt.imp fun v p q => q.butO ha3 (by intro _ z; cases z) b15
    replace ltd := b15 _ _ (ne_of ltd ha3 (by intro z; cases z)) ltd
    replace dtdt := dtdt.imp fun v p q => q.butO ha3 (by intro _ z; cases z) b15
    replace hwt := hwt.butO (ne_of hwt.lst.choose_spec ha3 (by intro z; cases z)) b15
    replace hth := L2.Paired.mapP hth fun _ _ ⟨x, e, t⟩ => (⟨x, e, ThAt.butS ha3 b15 t⟩ : ThV K _ _ _)
    replace eTL := b15 _ _ (ne_of eTL ha3 (by intro z; cases z)) eTL
    clear b15 ha3 hk3 st1'
    have hok3 : KsOk (· ∈ trees 4 (rowsOf G)) (putAll (putAll [] (trees 4 (rowsOf G))) (trees 4 (rowsOf G))) := hok1.all fun t h => h
    have hl3 : (putAll (putAll [] (trees 4 (rowsOf G))) (trees 4 (rowsOf G))).length ≤ 5602 := Nat.le_trans (putAll_len _ _) (by omega)
    have hv3 : ∀ t ∈ trees 4 (rowsOf G), valS (putAll (putAll [] (trees 4 (rowsOf G))) (trees 4 (rowsOf G))) (hid t) = some t := fun t h => putAll_val hinj (fun t h => h) t h (.inl h)
    have hkeys := putAll_keys hinj (fun t (h : t ∈ trees 4 (rowsOf G)) => h) hv1
    generalize putAll (putAll [] (trees 4 (rowsOf G))) (trees 4 (rowsOf G)) = ks1 at *
    generalize putAll [] (trees 4 (rowsOf G)) = ks2 at *
    refine ⟨(by show 3 ≤ sizeLine; exact line_of (by decide)), fun LN hLN => ?_⟩
    have hrid : isIdS (hid (.tree (held 4 (rowsOf G)))) = true := hid_id _
    generalize hroot : hid (.tree (held 4 (rowsOf G))) = root at *
    have nLNw : LN ≠ wa := ne_of_none' hLN hwt.lst.choose_spec
    obtain ⟨sLN, eLN⟩ := new_at (.lst [.str root, .str root, .str root]) hLN
    generalize upd H15 LN _ = H16 at *
    have hsh3 : SeqAt.shaped (.list (([root, root, root] : List Str).map PyData.str)) = true := shaped_strsL fun r hr => by
      simp only [List.mem_cons, List.not_mem_nil, or_false] at hr
      rcases hr with rfl | rfl | rfl <;> exact txOk_id hrid
    have hdp3 : ∀ H' : Hp, DpAll K H' (([root, root, root] : List Str).map V.str) (([root, root, root] : List Str).map PyData.str) := fun H' => dp_strs _
    refine ⟨_, rfl, _, rfl, LN, _, _, _, rfl, rfl, SqL.of eLN, rfl, (by show 1 ≤ sizeLine; exact line_of (by decide)), fun LM hLM => ?_⟩
    obtain ⟨sLM, eLM⟩ := new_at (.lst [.str root]) hLM
    refine ⟨LM, 3, _, rfl, rfl, eLM, by decide, by decide, line_of (by show 1 * 3 ≤ 100000; decide), fun LO hLO => ?_⟩
    obtain ⟨sLO, eLO⟩ := new_at (.lst (List.replicate (3 : Int).toNat [V.str root]).flatten) hLO
    refine ⟨.list (([root, root, root] : List Str).map PyData.str), .list (([root, root, root] : List Str).map PyData.str), .lst (SqL.of (sLO _ _ (sLM _ _ eLN))) (hdp3 _), .lst (SqL.of eLO) (hdp3 _), hsh3, hsh3, _, rfl, ite2 (fun h => absurd h ?_) (fun _ => ?_)⟩
    · have := eqv_all PyData.str eqv_str [root, root, root] [root, root, root]
      have he : PyData.eqv (.list (([root, root, root] : List Str).map PyData.str)) (.list (([root, root, root] : List Str).map PyData.str)) = true := by simpa [PyData.eqv] using this
      rw [he]
      decide
    have s15a := sLN.trans (sLM.trans sLO)
    have eLNa := sLO _ _ (sLM _ _ eLN)
    clear hLO sLO eLO hLM sLM eLM sLN eLN hLN
    generalize upd (upd H16 LM _) LO _ = H17 at *
    replace s0 := s0.trans s15a
    replace st1 := st1.same s15a
    replace st2 := st2.same s15a
    replace eLS := s15a _ _ eLS
    replace lD := s15a _ _ lD
    replace pD := L2.Paired.mapP pD fun _ _ q => s15a _ _ q
    replace dD := dD.imp fun v p q => q.same s15a
    replace het := s15a _ _ het
    replace fedt := fedt.imp fun v p q => q.same s15a
    replace ltd := s15a _ _ ltd
    replace dtdt := dtdt.imp fun v p q => q.same s15a
    replace hwt := hwt.same s15a
    replace hth := L2.Paired.mapP hth fun _ _ q => ThV.same q s15a
    replace eTL := s15a _ _ eTL
    -- the ids
    obtain ⟨dx4, kv4, ha4, hk4, _⟩ := id st1
    refine ⟨_, rfl, LS, _, _, _, rfl, rfl, SqL.of eLS, rfl, a1, dx4, stF kd1x, rfl, ha4, rfl, a1, kd1x, ks1, rfl, st1, by omega, fun H18 t1 s18 ht1 => ?_⟩
    have st2' := st2.same s18
    obtain ⟨dx5, kv5, ha5, hk5, _⟩ := id st2'
    refine ⟨_, rfl, LS, _, _, _, rfl, rfl, SqL.of (s18 _ _ eLS), rfl, a2, dx5, stF kd2', rfl, ha5, rfl, a2, kd2', ks2, rfl, st2', by omega, fun H19 t2 s19 ht2 => ?_⟩
    have hidk : ∀ z ∈ srt (ks2.map (·.1)), txOk z = true := fun z hz => by
      obtain ⟨t, ht, rfl⟩ := List.mem_map.mp (srt_mem.mp hz)
      rw [(hok1 t ht).1]
      exact txOk_id (hid_id _)
    rw [hkeys] at ht1
    refine ⟨.tuple ((srt (ks2.map (·.1))).map PyData.str), .tuple ((srt (ks2.map (·.1))).map PyData.str), .tup (SqT.of (s19 _ _ ht1)) (dp_strs _), .tup (SqT.of ht2) (dp_strs _), shaped_strs hidk, shaped_strs hidk, _, rfl, ite2 (fun h => absurd h ?_) (fun _ => ?_)⟩
    · have := eqv_all PyData.str eqv_str (srt (ks2.map (·.1))) (srt (ks2.map (·.1)))
      have he : PyData.eqv (.tuple ((srt (ks2.map (·.1))).map PyData.str)) (.tuple ((srt (ks2.map (·.1))).map PyData.str)) = true := by simpa [PyData.eqv] using this
      rw [he]
      decide
    have s17b := s18.trans s19
    have eLNb := s17b _ _ eLNa
    clear st2' ha4 hk4 ha5 hk5 ht1 ht2
    replace s0 := s0.trans s17b
    replace st1 := st1.same s17b
    replace st2 := st2.same s17b
    replace eLS := s17b _ _ eLS
    replace lD := s17b _ _ lD
    replace pD := L2.Paired.mapP pD fun _ _ q => s17b _ _ q
    replace dD := dD.imp fun v p q => q.same s17b
    replace het := s17b _ _ het
    replace fedt := fedt.imp fun v p q => q.same s17b
    replace ltd := s17b _ _ ltd
    replace dtdt := dtdt.imp fun v p q => q.same s17b
    replace hwt := hwt.same s17b
    replace hth := L2.Paired.mapP hth fun _ _ q => ThV.same q s17b
    replace eTL := s17b _ _ eTL
    -- the dict of what is kept
    have hbn : (bkv.map (·.1)).Nodup := by
      rw [dD.keys, ents_keys hlg.nd]
      exact List.Pairwise.map _ (fun a b h e => h (Sum.inr.inj e)) (srt_nodup hlg.nd)
    have hmb : mergeK [] bkv = bkv := by
      have := merge_nodup (k0 := []) (more := bkv) (by simpa using hbn)
      simpa using this
    refine ⟨_, rfl, D, ps, bkv, rfl, SqL.of lD, L2.Paired.mapP pD fun _ _ q => SqT.of q, fun dk hdk => ?_⟩
    rw [hmb]
    obtain ⟨sdk, edk⟩ := new_at (.dK bkv) hdk
    refine ⟨_, rfl, dk, e, bkv, ekv, rfl, rfl, edk, sdk _ _ het, by rw [dD.len, fedt.len, eg1], fun q hq => ⟨v8 q hq, ?_⟩, _, rfl, ite2 (fun h => absurd h (by decide)) (fun _ => ?_)⟩
    · obtain ⟨i, hi⟩ := List.getElem?_of_mem hq
      obtain ⟨f, _, _, r, er, _⟩ := dD.get (k := q.1) (v := q.2) hi
      rw [er]
      rfl
    have eLN := sdk _ _ eLNb
    clear edk hdk eLNa eLNb
    generalize upd H19 dk _ = H20 at *
    replace s0 := s0.trans sdk
    replace st1 := st1.same sdk
    replace st2 := st2.same sdk
    replace eLS := sdk _ _ eLS
    replace lD := sdk _ _ lD
    replace pD := L2.Paired.mapP pD fun _ _ q => sdk _ _ q
    replace dD := dD.imp fun v p q => q.same sdk
    replace het := sdk _ _ het
    replace fedt := fedt.imp fun v p q => q.same sdk
    replace ltd := sdk _ _ ltd
    replace dtdt := dtdt.imp fun v p q => q.same sdk
    replace hwt := hwt.same sdk
    replace hth := L2.Paired.mapP hth fun _ _ q => ThV.same q sdk
    replace eTL := sdk _ _ eTL
    -- both stores are read
    have hokD : ∀ e ∈ ents G, txOk e.1 = true ∧ txOk e.2.1 = true ∧ txOk e.2.2 = true := fun e he => by
      have hm := ents_mem he
      have hv := hlg.val e hm
      exact ⟨(hfo.path e hm).2.2, txOk_kind (value_kind hv).1, txOk_id (value_kind hv).2⟩
    have hstore : ∀ x ∈ [V.ref a1, V.ref a2], ∃ ai kdi ksi, x = .ref ai ∧ StAt K H20 ai kdi ksi ∧ KsOk (· ∈ trees 4 (rowsOf G)) ksi ∧ ∀ t ∈ trees 4 (rowsOf G), valS ksi (hid t) = some t := fun x hx => by
      simp only [List.mem_cons, List.not_mem_nil, or_false] at hx
      rcases hx with rfl | rfl
      · exact ⟨a1, kd1x, ks1, rfl, st1, hok3, hv3⟩
      · exact ⟨a2, kd2', ks2, rfl, st2, hok1, hv1⟩
    refine ⟨_, rfl, LS, rfl, ⟨_, SqL.of eLS⟩, for_list (xs := [.ref a1, .ref a2]) (fun i σ H' => (∃ x9 x10, σ = [some (.ref a), some (.int c), some (.ref wa), some (.ref LS), some (.ref e), some (.ref D), some (.ref td), some (.ref TL), some (.ref LN), x9, x10, none]) ∧ Same H20 H') ?_ ?_ ?_ ?_⟩
    · exact ⟨⟨_, _, rfl⟩, fun _ _ z => z⟩
    · exact fun i σ H' _ z => SqL.of (z.2 _ _ eLS)
    · rintro i x σ H21 hx ⟨⟨y9, y10, rfl⟩, s21⟩
      obtain ⟨ai, kdi, ksi, rfl, sti, oki, vi⟩ := hstore x (List.mem_of_getElem? hx)
      obtain ⟨F0, n0, run0, nd0, mem0⟩ := runs_root hRG hRl vi
      rw [hroot] at run0
      have hents : ents F0 = ents G := ents_congr nd0 hlg.nd fun e => (mem0 e).trans (rows_iff hlg e)
      have hgd := oki.good hgood
      have hr16 : root.length ≤ 4000 := by rw [idLen hrid]; decide
      have st21 := sti.same s21
      obtain ⟨dx6, kv6, ha6, _, _⟩ := id st21
      refine ⟨_, rfl, ai, dx6, stF kdi, rfl, ha6, rfl, _, rfl, LN, _, _, _, rfl, rfl, SqL.of (s21 _ _ eLN), rfl, ai, kdi, ksi, _, some root, n0, F0, [], rfl, st21, oddS hr16, hgd, run0, .inl ⟨rfl, fun H22 fd s22 hfd ff => ?_⟩⟩
      obtain ⟨fkv, hfd22, fdr⟩ := ff
      have s20b := s21.trans s22
      refine ⟨_, rfl, fd, fkv, rfl, hfd22, fun H23 pl ts s23 _ _ _ hpl hts => ?_⟩
      have s20c := s20b.trans s23
      refine ⟨_, rfl, .list ((ents F0).map itD), .list ((ents G).map itD), .lst (SqL.of hpl) (items_dp hts (fdr.imp fun v p q => q.same s23)), .lst (SqL.of (s20c _ _ lD)) (items_dp (L2.Paired.mapP pD fun _ _ q => s20c _ _ q) (dD.imp fun v p q => q.same s20c)), shaped_its (by rw [hents]; exact hokD), shaped_its hokD, _, rfl, ite2 (fun h => absurd h (by rw [hents, eqv_its]; simp)) (fun _ => ?_)⟩
      refine ⟨_, rfl, _, rfl, LN, _, _, _, rfl, rfl, SqL.of (s20c _ _ eLN), rfl, _, rfl, ai, kdi, e, ksi, G, [], by rw [hdown, hroot, fr_nil]; rfl, sti.same s20c, ⟨ekv, s20c _ _ het, fedt.imp fun v p q => q.same s20c⟩, hlg, hGl, (fun s hs => by cases hs), by decide, by rw [hdown]; exact hRO, by rw [hdown]; exact vi, fun H24 s24 => ⟨_, rfl, ite2 (fun h => absurd h (by decide)) (fun _ => ?_)⟩⟩
      have s20d := s20c.trans s24
      have hfd24 := s24 _ _ (s23 _ _ hfd22)
      refine ⟨_, rfl, .inr (.inr (.inl ⟨rfl, .inl ⟨_, hfd24⟩⟩)), fd, fkv, rfl, rfl, hfd24, ?_⟩
      have s20e : Same H20 (upd H24 fd (.dK [])) := s20d.mut (s21.free hfd)
      clear hfd24 hfd22 fdr s23 s24 hpl hts s20b s20c s20d hfd s22 ha6 st21
      generalize upd H24 fd (.dK []) = H25 at *
      have st25 := sti.same s20e
      obtain ⟨dx7, kv7, ha7, _, _⟩ := id st25
      refine ⟨_, rfl, ai, dx7, stF kdi, rfl, ha7, rfl, _, rfl, LN, _, _, _, rfl, rfl, SqL.of (s20e _ _ eLN), rfl, ai, kdi, ksi, _, some root, n0, F0, [], rfl, st25, oddS hr16, hgd, run0, .inl ⟨rfl, fun H26 fe s26 hfe ff => ?_⟩⟩
      obtain ⟨gkv, hfe26, ger⟩ := ff
      refine ⟨fe, gkv, rfl, hfe26, fun H27 pl ts s27 _ _ _ hpl hts => ?_⟩
      have s20f := s20e.trans (s26.trans s27)
      refine ⟨_, rfl, .list ((ents F0).map itD), .list ((ents G).map itD), .lst (SqL.of hpl) (items_dp hts (ger.imp fun v p q => q.same s27)), .lst (SqL.of (s20f _ _ lD)) (items_dp (L2.Paired.mapP pD fun _ _ q => s20f _ _ q) (dD.imp fun v p q => q.same s20f)), shaped_its (by rw [hents]; exact hokD), shaped_its hokD, _, rfl, ite2 (fun h => absurd h (by rw [hents, eqv_its]; simp)) (fun _ => ?_)⟩
      exact ⟨⟨_, _, rfl⟩, s20f⟩
    rintro σ H28 ⟨⟨y9, y10, rfl⟩, s28⟩
    replace s0 := s0.trans s28
    replace st1 := st1.same s28
    replace st2 := st2.same s28
    replace eLS := s28 _ _ eLS
    replace eLN := s28 _ _ eLN
    replace het := s28 _ _ het
    replace fedt := fedt.imp fun v p q => q.same s28
    replace hwt := hwt.same s28
    replace hth := L2.Paired.mapP hth fun _ _ q => ThV.same q s28
    replace eTL := s28 _ _ eTL
    refine ⟨_, rfl, _, rfl, LS, _, _, _, rfl, rfl, SqL.of eLS, rfl, _, rfl, wa, a1, kd1x, e, _, ks1, (· ∈ trees 4 (rowsOf G)), G, rfl, hwt, by omega, by omega, st1, by omega, hok3, hinj, ⟨ekv, het, fedt⟩, hlg, hGl, fun H29 c' b29 hw29 hc0 hc1 => ⟨_, rfl, ite2 (fun h => absurd h (by decide)) (fun _ => ?_)⟩⟩
    obtain ⟨wl28, hwl28⟩ := hwt.lst
    have st29 := StAt.butL hwl28 b29 st2
    have s029 := But.same s0 b29 hwa0
    obtain ⟨dx8, kv8, _, hk8, _⟩ := id st29
    refine ⟨_, rfl, _, rfl, LS, _, _, _, rfl, rfl, SqL.of (b29 _ _ nLS eLS), rfl, _, rfl, LN, _, _, _, rfl, rfl, SqL.of (b29 _ _ nLNw eLN), rfl, _, rfl, wa, a2, kd2', TL, c', ks2, vs1, rowsOf G, by rw [hroot]; rfl, hw29, hc0, by omega, st29, by omega, b29 _ _ nTLw eTL, nTLw, L2.Paired.mapP hth fun _ _ ⟨x, q, t⟩ => ⟨x, q, ThAt.butL hwl28 b29 t⟩, hgood, by omega, hok1, hRG, hRl, hv1, fun H30 b30 => ⟨_, rfl, ite2 (fun h => absurd h (by decide)) (fun _ => ?_)⟩⟩
    exact ⟨⟨_, _, _, _, _, _, _, _, _, _, rfl⟩, b30 _ _ (ne_of_none eC hwa0) (ne_of (s029 _ _ eC) hk8 (by intro z; cases z)) (s029 _ _ eC)⟩
end
end FK

/-! Forkhaul k08: the facts of the written part, from one look at what the top leaves. -/
namespace FK
open PySem PySem.Spec PyProof.Rows L2
open PySem.W (Frag)
open PySem.FKX
/-! ### defs at addresses of our own -/
theorem fnA_of {K : Frag} {d : DefA} {f : Addr} (e : fnA K f = d.val) : ∃ oc od osl dV kV doc pm an cdv ct clo, K.lookup f = some ⟨oc, od, .func (PySem.W.fnX d.name d.qual (defArgs d.st) (defBody d.st) (defScope d.st) clo dV kV doc pm an cdv ct), osl⟩ ∧ clo.map (·.1) = d.clo := by
  unfold fnA at e
  cases q : K.lookup f with
  | none =>
    rw [q] at e
    cases e
  | some o =>
    obtain ⟨oc, od, dt, osl⟩ := o
    rw [q] at e
    cases dt with
    | func fd =>
      obtain ⟨n1, n2, n3, n4, n5, n6, n7, n8, n9, n10, n11, n12, n13, n14, n15⟩ := fd
      have e2 : (some (n1, n2, n3, n4, n5, n6, n7.map (·.1), n15) : FnA) = some (d.name, d.qual, defArgs d.st, .stmts (defBody d.st), defScope d.st, mainGlobals, d.clo, builtinsNs) := e
      simp only [Option.some.injEq, Prod.mk.injEq] at e2
      obtain ⟨h1, h2, h3, h4, h5, h6, h7, h8⟩ := e2
      subst h1 h2 h3 h4 h5 h6 h8
      exact ⟨oc, od, osl, n8, n9, n10, n11, n12, n13, n14, n7, rfl, h7⟩
    | _ => cases e
/-- a plain def -/
theorem plain_of {K : Frag} {d : DefA} {f : Addr} (e : fnA K f = d.val) (hc : d.clo = []) (t : plainB K f d.qual = true) : MF K d.name d.qual d.st f := by
  obtain ⟨oc, od, osl, dV, kV, doc, pm, an, cdv, ct, clo, lk, hq⟩ := fnA_of e
  obtain ⟨t1, t2⟩ := He.ba t
  rw [lk] at t2
  obtain ⟨t3, t4⟩ := He.ba t2
  rw [hc] at hq
  obtain rfl : clo = [] := List.map_eq_nil_iff.mp hq
  exact ⟨_, ⟨oc, od, dV, kV, doc, pm, an, cdv, ct, osl, rfl, lk, t3, He.dflB_ok t4, .inl rfl⟩, t1⟩
theorem strAt_of {o : Option Value} {y : Str} (h : strAt o y = true) : ∃ t, o = some (.str y t) := by
  cases o with
  | none => cases h
  | some v =>
    cases v with
    | str z t => exact ⟨t, by rw [show z = y from of_decide_eq_true h]⟩
    | _ => cases h
/-- a def with super() -/
theorem sup_of {K : Frag} {P : Program} {d : DefA} {f D : Addr} {file : Str} (hn : d.name = "__init__") (hcl : d.clo = [("__class__" : Str)]) (hP : P.main.file = file) (e : fnA K f = d.val) (t : supB K file f D d.qual = true) :
    ∃ oc od fd osl, K.lookup f = some ⟨oc, od, .func fd, osl⟩ ∧ Sup K P f D d.qual d.st fd.defaults := by
  obtain ⟨oc, od, osl, dV, kV, doc, pm, an, cdv, ct, clo, lk, hq⟩ := fnA_of e
  unfold supB at t
  rw [lk] at t
  rw [hcl] at hq
  cases clo with
  | nil => cases hq
  | cons p r =>
    obtain ⟨n, cc⟩ := p
    cases r with
    | cons _ _ => cases hq
    | nil =>
      have en : n = "__class__" := (List.cons.inj hq).1
      subst en
      cases cdv with
      | ref cda =>
        obtain ⟨t1, t⟩ := He.ba t
        obtain ⟨t2, t⟩ := He.ba t
        obtain ⟨t3, t⟩ := He.ba t
        obtain ⟨t4, t5⟩ := He.ba t
        rw [hn] at lk
        refine ⟨_, _, _, _, lk, ⟨?_, of_decide_eq_true t5⟩⟩
        cases q1 : K.lookup cda with
        | none => rw [q1] at t2; cases t2
        | some o1 =>
          obtain ⟨ccl, cdd, dt1, ccs⟩ := o1
          rw [q1] at t2
          cases dt1 with
          | fields vs =>
            obtain ⟨tf, q2⟩ := strAt_of t2
            cases q3 : K.lookup cc with
            | none => rw [q3] at t3; cases t3
            | some o3 =>
              obtain ⟨cl, cld, dt3, csl⟩ := o3
              rw [q3] at t3
              cases dt3 with
              | cell ov =>
                cases ov with
                | none => cases t3
                | some v =>
                  cases v with
                  | ref E =>
                    have eD : E = D := of_decide_eq_true t3
                    subst eD
                    obtain ⟨cdD, hD⟩ := Option.isSome_iff_exists.mp t4
                    exact ⟨oc, od, kV, doc, pm, an, cda, ct, cc, osl, ccl, cdd, vs, ccs, tf, cl, cld, csl, cdD, lk, t1, q1, by rw [hP]; exact q2, q3, hD⟩
                  | _ => cases t3
              | _ => cases t3
          | _ => cases t2
      | _ => cases t
theorem dfl0_of {K : Frag} {f : Addr} {oc : Value} {od : Option Addr} {fd : FuncData} {osl : Array (Option Value)} (lk : K.lookup f = some ⟨oc, od, .func fd, osl⟩) (t : dfl0B K f = true) : fd.defaults = .none := by
  unfold dfl0B at t
  rw [lk] at t
  obtain ⟨n1, n2, n3, n4, n5, n6, n7, n8, n9, n10, n11, n12, n13, n14, n15⟩ := fd
  cases n8 with
  | none => rfl
  | _ => cases t
theorem dfl1_of {K : Frag} {f : Addr} {oc : Value} {od : Option Addr} {fd : FuncData} {osl : Array (Option Value)} (lk : K.lookup f = some ⟨oc, od, .func fd, osl⟩) (t : dfl1B K f = true) :
    ∃ (T : Addr) (oT : Obj) (d0 : Value) (nT : Nat), fd.defaults = .ref T ∧ K.lookup T = some oT ∧ oT.data = .seq #[d0] nT := by
  unfold dfl1B at t
  rw [lk] at t
  obtain ⟨n1, n2, n3, n4, n5, n6, n7, n8, n9, n10, n11, n12, n13, n14, n15⟩ := fd
  cases n8 with
  | ref T =>
    have t1 : (match K.lookup T with
      | some ⟨_, _, .seq its _, _⟩ => decide (its.size = 1)
      | _ => false) = true := t
    cases q : K.lookup T with
    | none => rw [q] at t1; cases t1
    | some o =>
      obtain ⟨a, b, dt, c⟩ := o
      rw [q] at t1
      cases dt with
      | seq its n =>
        have e : its.size = 1 := of_decide_eq_true t1
        obtain ⟨l⟩ := its
        match l, e with
        | [d0], _ => exact ⟨T, _, d0, n, rfl, q, rfl⟩
      | _ => cases t1
  | _ => cases t
/-! ### classes of exceptions -/
theorem exc_of {K : Frag} {C : Addr} {newId : String} {ok : List Value → Bool} (t : excB K C newId ok = true) :
    ∃ nm q N bs bm sn sub ab col dd k0 k1 k2 k3 k5, K.lookup C = some (excClassObj nm q C N bs bm true sn sub ab col dd k0 k1 k2 k3 k5 newId) ∧ ok bm = true ∧ ∃ cd, PySem.W.clsIn K C = some cd ∧ cd.mro = .ref C :: bm ∧ cd.hasDict = true := by
  unfold excB at t
  split at t
  · rename_i dd cd sl ho
    split at t
    · rename_i C' bm k0 k1 k2 k3 n k5 hm hs
      obtain ⟨t1, t⟩ := He.ba t
      obtain ⟨t2, t⟩ := He.ba t
      obtain ⟨t3, t⟩ := He.ba t
      obtain ⟨t4, t5⟩ := He.ba t
      have e1 : C' = C := of_decide_eq_true t1
      have e2 : n = newId := of_decide_eq_true t2
      subst e1 e2
      have hcl : PySem.W.clsIn K C' = some cd := by unfold PySem.W.clsIn; rw [ho]
      obtain ⟨nm, bs, mro, ns, qn, hd, sn, sub, ab, col, del⟩ := cd
      dsimp only at hm t3 t4
      have t3' : del = false := by
        cases del with
        | false => rfl
        | true => cases t3
      subst hm t3' t4
      have hsl : sl = #[k0, k1, k2, k3, some (.builtin n), k5] := by
        obtain ⟨l⟩ := sl
        have hs' : l = _ := hs
        rw [hs']
      subst hsl
      exact ⟨nm, qn, ns, bs, bm, sn, sub, ab, col, dd, k0, k1, k2, k3, k5, ho, t5, _, hcl, rfl, rfl⟩
    · cases t
  · cases t
end FK

/-! Forkhaul k08: what is looked at behind the top (printed by genH2.py). -/
namespace FK
open PySem PySem.Spec PyProof.Rows L2
open PySem.W (Frag)
open PySem.FKX PySem.HandSPX

section
variable {P : Program} {w : World} {K : Frag} {mg : Str → Option Value} {base : Heap}
theorem fr_of (M : Mod K mg base) (c : SaysK K) : Fr mg := ⟨He.free_ok M.kin M.glob (c.d.fact 44 (f := .free "isinstance") rfl), He.free_ok M.kin M.glob (c.d.fact 45 (f := .free "len") rfl), He.free_ok M.kin M.glob (c.d.fact 46 (f := .free "all") rfl), He.free_ok M.kin M.glob (c.d.fact 47 (f := .free "str") rfl), He.free_ok M.kin M.glob (c.d.fact 48 (f := .free "dict") rfl), He.free_ok M.kin M.glob (c.d.fact 49 (f := .free "tuple") rfl), He.free_ok M.kin M.glob (c.d.fact 50 (f := .free "sorted") rfl), He.free_ok M.kin M.glob (c.d.fact 51 (f := .free "int") rfl), He.free_ok M.kin M.glob (c.d.fact 52 (f := .free "bytes") rfl), He.free_ok M.kin M.glob (c.d.fact 53 (f := .free "bool") rfl), He.free_ok M.kin M.glob (c.d.fact 54 (f := .free "min") rfl), He.free_ok M.kin M.glob (c.d.fact 55 (f := .free "range") rfl), He.free_ok M.kin M.glob (c.d.fact 56 (f := .free "list") rfl), He.free_ok M.kin M.glob (c.d.fact 57 (f := .free "repr") rfl), He.free_ok M.kin M.glob (c.d.fact 58 (f := .free "super") rfl)⟩
theorem kit_of (M : Mod K mg base) (c : SaysK K) : Kit K mg where
  fr := fr_of M c
  gB := (He.glo_ok M.kin M.glob (c.d.fact 33 (f := .glo "Blob") rfl))
  gT := (He.glo_ok M.kin M.glob (c.d.fact 34 (f := .glo "Tree") rfl))
  gC := (He.glo_ok M.kin M.glob (c.d.fact 35 (f := .glo "Commit") rfl))
  gG := (He.glo_ok M.kin M.glob (c.d.fact 36 (f := .glo "Tag") rfl))
  gS := (He.glo_ok M.kin M.glob (c.d.fact 37 (f := .glo "Store") rfl))
  cB := (He.cls_ok (c.d.fact 69 (f := .cls "Blob") rfl))
  cT := (He.cls_ok (c.d.fact 70 (f := .cls "Tree") rfl))
  cS := (He.cls_ok (c.d.fact 71 (f := .cls "Store") rfl))
  nB := (He.noat_ok (c.d.fact 72 (f := .noat "Blob" "held") rfl))
  nT := (He.noat_ok (c.d.fact 73 (f := .noat "Tree" "held") rfl))
  nS1 := (He.noat_ok (c.d.fact 74 (f := .noat "Store" "short") rfl))
  nS2 := (He.noat_ok (c.d.fact 75 (f := .noat "Store" "kept") rfl))
  mkB := (He.mkr_ok (c.d.fact 76 (f := .mkr "Blob") rfl))
  mkT := (He.mkr_ok (c.d.fact 77 (f := .mkr "Tree") rfl))
  mkS := (He.mkr_ok (c.d.fact 78 (f := .mkr "Store") rfl))
  eqB := ⟨(He.eqO_ok (c.x 0)), (c.x 1), (He.eqO_ok (c.x 2)), (of_decide_eq_true (c.x 3))⟩
  eqT := ⟨(He.eqO_ok (c.x 9)), (c.x 10), (He.eqO_ok (c.x 11)), (of_decide_eq_true (c.x 12))⟩
  fBB := (c.x 4)
  fBT := (c.x 6)
  fTB := (c.x 13)
  fTT := (c.x 15)
  iBB := (of_decide_eq_true (c.x 5))
  iBT := (of_decide_eq_true (c.x 7))
  iTB := (of_decide_eq_true (c.x 14))
  iTT := (of_decide_eq_true (c.x 16))
  iNT := (of_decide_eq_true (c.x 18))
  tyB := fun H a dx fs e => .ins e (He.cls_ok (c.d.fact 69 (f := .cls "Blob") rfl)) (He.eqO_ok (c.x 8)) (He.eqO_ok (c.x 19)) (of_decide_eq_true (c.x 20)) (of_decide_eq_true (c.x 3))
  tyT := fun H a dx fs e => .ins e (He.cls_ok (c.d.fact 70 (f := .cls "Tree") rfl)) (He.eqO_ok (c.x 17)) (He.eqO_ok (c.x 19)) (of_decide_eq_true (c.x 20)) (of_decide_eq_true (c.x 12))
  prB := ⟨(He.eqO_ok (c.x 21)), (He.eqO_ok (c.x 22)), (of_decide_eq_true (c.x 23)), rec_of (c.x 24)⟩
  prT := ⟨(He.eqO_ok (c.x 26)), (He.eqO_ok (c.x 27)), (of_decide_eq_true (c.x 28)), rec_of (c.x 29)⟩
theorem own_of (c : SaysK K) : OwnHas K (mAt K (ca K "Store") "__contains__") (mAt K (ca K "Store") "__getitem__") := ⟨(He.eqO_ok (c.x 31)), (c.x 32), (He.eqO_ok (c.x 33)), (c.x 34), (c.x 35)⟩
theorem exm_of (c : SaysK K) : Exm K := ⟨(of_decide_eq_true (c.x 36)), (of_decide_eq_true (c.x 37)), (of_decide_eq_true (c.x 38)), (of_decide_eq_true (c.x 39)), (of_decide_eq_true (c.x 40)), (of_decide_eq_true (c.x 41)), xfB_ok (c.x 42), xfB_ok (c.x 43), (He.eqO_ok (c.x 44)), (He.eqO_ok (c.x 45))⟩
theorem newVE {bm : List Value} (h : okVE bm = true) : NewOk bm "ValueError" := by
  obtain ⟨_, h⟩ := He.ba h
  obtain ⟨h1, h⟩ := He.ba h
  obtain ⟨h2, h3⟩ := He.ba h
  exact ⟨h1, by simpa using h2, by simpa using h3⟩
theorem newKE {bm : List Value} (h : okKE bm = true) : NewOk bm "LookupError" := by
  obtain ⟨_, h⟩ := He.ba h
  obtain ⟨h1, h⟩ := He.ba h
  obtain ⟨h2, h3⟩ := He.ba h
  exact ⟨h1, by simpa using h2, by simpa using h3⟩
/-- the maker of an exception over ValueError -/
theorem mkrVE {C D : Addr} {a : Str} (hb : excB K C "ValueError.__new__" okVE = true) (sa : PySem.W.findIn K (.ref C) "__setattr__" = some (some (.builtin "object.__setattr__"))) (no : PySem.W.findIn K (.ref C) a = some none) (sub : PySem.W.mroIn K C (.ref D) = some true) : Mkr K C D "ValueError.__new__" a := by
  obtain ⟨nm, q, N, bs, bm, sn, su, ab, col, dd, k0, k1, k2, k3, k5, lk, ok, cd, h1, h2, h3⟩ := exc_of hb
  exact ⟨⟨nm, q, N, bs, bm, sn, su, ab, col, dd, k0, k1, k2, k3, k5, lk⟩, canStore_VE h1 (by rw [h2]; exact (He.ba ok).1) h3, sa, no, sub⟩
theorem mkrKE {C D : Addr} {a : Str} (hb : excB K C "LookupError.__new__" okKE = true) (sa : PySem.W.findIn K (.ref C) "__setattr__" = some (some (.builtin "object.__setattr__"))) (no : PySem.W.findIn K (.ref C) a = some none) (sub : PySem.W.mroIn K C (.ref D) = some true) : Mkr K C D "LookupError.__new__" a := by
  obtain ⟨nm, q, N, bs, bm, sn, su, ab, col, dd, k0, k1, k2, k3, k5, lk, ok, cd, h1, h2, h3⟩ := exc_of hb
  exact ⟨⟨nm, q, N, bs, bm, sn, su, ab, col, dd, k0, k1, k2, k3, k5, lk⟩, canStore_KE h1 (by rw [h2, show bm = keTail from beq_iff_eq.mp (He.ba ok).1]) h3, sa, no, sub⟩
theorem cdmVE {C : Addr} (hb : excB K C "ValueError.__new__" okVE = true) : ∃ cd, PySem.W.clsIn K C = some cd ∧ refsVE cd.mro = true ∧ cd.hasDict = true := by
  obtain ⟨nm, q, N, bs, bm, sn, su, ab, col, dd, k0, k1, k2, k3, k5, lk, ok, cd, h1, h2, h3⟩ := exc_of hb
  exact ⟨cd, h1, by rw [h2]; exact (He.ba ok).1, h3⟩

theorem exN (M : Mod K mg base) (c : SaysK K) (hP : P.main.scope.names.lookup ("super" : Str) = none) (hF : P.main.file = fileS) : PySem.FKX.ExMk P w K base (ca K "BadName") L2.fsWhy := by
  have MB : Modx K mg base := ⟨M.kin, M.glob, M.blt, M.nolimit⟩
  have hsup : mg "super" = none := (fr_of M c).super
  obtain ⟨oc, od, fd, osl, lkF, SF⟩ := sup_of (P := P) (d := dA2) (D := ca K "ForkError") rfl rfl hF (c.a 2 (d := dA2)) (c.x 46)
  obtain ⟨TT, oT, d0, nT, hT, lT, dT⟩ := dfl1_of lkF (c.x 49)
  have ini : InitGo P w base (ca K "BadName") (mAt K (ca K "ForkError") "__init__") (fun v _ y => if y = ("why" : Str) then some v else none) := by
    intro A R s x t0 v hd kb hx hxb hq
    exact fork_init hP SF hT lT dT (mkrVE (c.x 52) (He.eqO_ok (c.x 57)) (He.eqO_ok (c.x 58)) (of_decide_eq_true (c.x 85))) (of_decide_eq_true (c.x 59)) (He.eqO_ok (c.x 86)) (He.eqO_ok (c.x 95)) MB kb hx hxb hsup (by omega) fun h' tk dx I => hq h' tk dx 0 I
  obtain ⟨nm, q, N, bs, bm, sn, su, ab, col, dd, k0, k1, k2, k3, k5, lk, ok, cd, h1, h2, h3⟩ := exc_of (C := ca K "BadName") (c.x 52)
  refine ⟨⟨"ValueError", "ValueError.__new__", "ValueError.__init__", _, _, (fun v _ y => if y = ("why" : Str) then some v else none), nm, q, N, bs, bm, sn, su, ab, col, dd, k0, k1, k2, k3, k5, PySem.F.excBase_ValueError, newVE ok, lk, (He.eqO_ok (c.x 56)), SF.ty, ini, ?_⟩, (c.x 53), (of_decide_eq_true (c.x 54)), (of_decide_eq_true (c.x 55))⟩
  intro v v' τ f r
  by_cases h : f = ("why" : Str)
  · subst h
    simp only [L2.fsWhy, List.lookup, beq_self_eq_true, if_true]
    exact r
  · simp only [L2.fsWhy, List.lookup, beq_eq_false_iff_ne.mpr h, if_neg h]
    exact trivial
theorem exP (M : Mod K mg base) (c : SaysK K) (hP : P.main.scope.names.lookup ("super" : Str) = none) (hF : P.main.file = fileS) : PySem.FKX.ExMk P w K base (ca K "BadPath") L2.fsWhy := by
  have MB : Modx K mg base := ⟨M.kin, M.glob, M.blt, M.nolimit⟩
  have hsup : mg "super" = none := (fr_of M c).super
  obtain ⟨oc, od, fd, osl, lkF, SF⟩ := sup_of (P := P) (d := dA2) (D := ca K "ForkError") rfl rfl hF (c.a 2 (d := dA2)) (c.x 46)
  obtain ⟨TT, oT, d0, nT, hT, lT, dT⟩ := dfl1_of lkF (c.x 49)
  have ini : InitGo P w base (ca K "BadPath") (mAt K (ca K "ForkError") "__init__") (fun v _ y => if y = ("why" : Str) then some v else none) := by
    intro A R s x t0 v hd kb hx hxb hq
    exact fork_init hP SF hT lT dT (mkrVE (c.x 60) (He.eqO_ok (c.x 65)) (He.eqO_ok (c.x 66)) (of_decide_eq_true (c.x 87))) (of_decide_eq_true (c.x 67)) (He.eqO_ok (c.x 88)) (He.eqO_ok (c.x 95)) MB kb hx hxb hsup (by omega) fun h' tk dx I => hq h' tk dx 0 I
  obtain ⟨nm, q, N, bs, bm, sn, su, ab, col, dd, k0, k1, k2, k3, k5, lk, ok, cd, h1, h2, h3⟩ := exc_of (C := ca K "BadPath") (c.x 60)
  refine ⟨⟨"ValueError", "ValueError.__new__", "ValueError.__init__", _, _, (fun v _ y => if y = ("why" : Str) then some v else none), nm, q, N, bs, bm, sn, su, ab, col, dd, k0, k1, k2, k3, k5, PySem.F.excBase_ValueError, newVE ok, lk, (He.eqO_ok (c.x 64)), SF.ty, ini, ?_⟩, (c.x 61), (of_decide_eq_true (c.x 62)), (of_decide_eq_true (c.x 63))⟩
  intro v v' τ f r
  by_cases h : f = ("why" : Str)
  · subst h
    simp only [L2.fsWhy, List.lookup, beq_self_eq_true, if_true]
    exact r
  · simp only [L2.fsWhy, List.lookup, beq_eq_false_iff_ne.mpr h, if_neg h]
    exact trivial
theorem exO (M : Mod K mg base) (c : SaysK K) (hP : P.main.scope.names.lookup ("super" : Str) = none) (hF : P.main.file = fileS) : PySem.FKX.ExMk P w K base (ca K "BadObject") L2.fsAt := by
  have MB : Modx K mg base := ⟨M.kin, M.glob, M.blt, M.nolimit⟩
  have hsup : mg "super" = none := (fr_of M c).super
  obtain ⟨oc, od, fd, osl, lkF, SF⟩ := sup_of (P := P) (d := dA2) (D := ca K "ForkError") rfl rfl hF (c.a 2 (d := dA2)) (c.x 46)
  obtain ⟨TT, oT, d0, nT, hT, lT, dT⟩ := dfl1_of lkF (c.x 49)
  obtain ⟨oc2, od2, fd2, osl2, lkX, SX⟩ := sup_of (P := P) (d := dA3) (D := ca K "BadObject") rfl rfl hF (c.a 3 (d := dA3)) (c.x 47)
  rw [dfl0_of lkX (c.x 50)] at SX
  have ini : InitGo P w base (ca K "BadObject") (mAt K (ca K "BadObject") "__init__") (fun v τ y => if y = ("at" : Str) then some v else if y = ("why" : Str) then some (.str "not an object" τ) else none) := by
    intro A R s x t0 v hd kb hx hxb hq
    exact badobj_init hP SX SF hT lT dT (mkrVE (c.x 68) (He.eqO_ok (c.x 73)) (He.eqO_ok (c.x 75)) (of_decide_eq_true (c.x 91))) (He.eqO_ok (c.x 92)) (mkrVE (c.x 68) (He.eqO_ok (c.x 73)) (He.eqO_ok (c.x 74)) (of_decide_eq_true (c.x 89))) (of_decide_eq_true (c.x 76)) (He.eqO_ok (c.x 90)) (He.eqO_ok (c.x 95)) (cdmVE (c.x 68)) MB kb hx hxb hsup hd fun h' tk dx τ I => hq h' tk dx τ I
  obtain ⟨nm, q, N, bs, bm, sn, su, ab, col, dd, k0, k1, k2, k3, k5, lk, ok, cd, h1, h2, h3⟩ := exc_of (C := ca K "BadObject") (c.x 68)
  refine ⟨⟨"ValueError", "ValueError.__new__", "ValueError.__init__", _, _, (fun v τ y => if y = ("at" : Str) then some v else if y = ("why" : Str) then some (.str "not an object" τ) else none), nm, q, N, bs, bm, sn, su, ab, col, dd, k0, k1, k2, k3, k5, PySem.F.excBase_ValueError, newVE ok, lk, (He.eqO_ok (c.x 72)), SX.ty, ini, ?_⟩, (c.x 69), (of_decide_eq_true (c.x 70)), (of_decide_eq_true (c.x 71))⟩
  intro v v' τ f r
  by_cases h : f = ("at" : Str)
  · subst h
    simp only [L2.fsAt, List.lookup, beq_self_eq_true, if_true]
    exact r
  · by_cases h2 : f = ("why" : Str)
    · subst h2
      simp only [L2.fsAt, List.lookup, beq_eq_false_iff_ne.mpr h, if_neg h, beq_self_eq_true, if_true]
      exact ⟨τ, rfl⟩
    · simp only [L2.fsAt, List.lookup, beq_eq_false_iff_ne.mpr h, if_neg h, beq_eq_false_iff_ne.mpr h2, if_neg h2]
      exact trivial
theorem exX (M : Mod K mg base) (c : SaysK K) (hP : P.main.scope.names.lookup ("super" : Str) = none) (hF : P.main.file = fileS) : PySem.FKX.ExMk P w K base (ca K "NoObject") L2.fsName := by
  have MB : Modx K mg base := ⟨M.kin, M.glob, M.blt, M.nolimit⟩
  have hsup : mg "super" = none := (fr_of M c).super
  obtain ⟨oc, od, fd, osl, lkF, SF⟩ := sup_of (P := P) (d := dA2) (D := ca K "ForkError") rfl rfl hF (c.a 2 (d := dA2)) (c.x 46)
  obtain ⟨TT, oT, d0, nT, hT, lT, dT⟩ := dfl1_of lkF (c.x 49)
  obtain ⟨oc2, od2, fd2, osl2, lkX, SX⟩ := sup_of (P := P) (d := dA4) (D := ca K "NoObject") rfl rfl hF (c.a 4 (d := dA4)) (c.x 48)
  rw [dfl0_of lkX (c.x 51)] at SX
  have ini : InitGo P w base (ca K "NoObject") (mAt K (ca K "NoObject") "__init__") (fun v _ y => if y = ("name" : Str) then some v else none) := by
    intro A R s x t0 v hd kb hx hxb hq
    exact noobj_init hP SX (mkrKE (c.x 77) (He.eqO_ok (c.x 82)) (He.eqO_ok (c.x 83)) (of_decide_eq_true (c.x 93))) (of_decide_eq_true (c.x 84)) (He.eqO_ok (c.x 94)) (He.eqO_ok (c.x 95)) MB kb hx hxb hsup (by omega) fun h' tk dx I => hq h' tk dx 0 I
  obtain ⟨nm, q, N, bs, bm, sn, su, ab, col, dd, k0, k1, k2, k3, k5, lk, ok, cd, h1, h2, h3⟩ := exc_of (C := ca K "NoObject") (c.x 77)
  refine ⟨⟨"LookupError", "LookupError.__new__", "LookupError.__init__", _, _, (fun v _ y => if y = ("name" : Str) then some v else none), nm, q, N, bs, bm, sn, su, ab, col, dd, k0, k1, k2, k3, k5, PySem.F.excBase_LookupError, newKE ok, lk, (He.eqO_ok (c.x 81)), SX.ty, ini, ?_⟩, (c.x 78), (of_decide_eq_true (c.x 79)), (of_decide_eq_true (c.x 80))⟩
  intro v v' τ f r
  by_cases h : f = ("name" : Str)
  · subst h
    simp only [L2.fsName, List.lookup, beq_self_eq_true, if_true]
    exact r
  · simp only [L2.fsName, List.lookup, beq_eq_false_iff_ne.mpr h, if_neg h]
    exact trivial
theorem exs_of (M : Mod K mg base) (c : SaysK K) (hP : P.main.scope.names.lookup ("super" : Str) = none) (hF : P.main.file = fileS) : Exs P w K mg base := ⟨(He.glo_ok M.kin M.glob (c.d.fact 38 (f := .glo "BadName") rfl)), (He.glo_ok M.kin M.glob (c.d.fact 39 (f := .glo "BadPath") rfl)), (He.glo_ok M.kin M.glob (c.d.fact 40 (f := .glo "BadObject") rfl)), (He.glo_ok M.kin M.glob (c.d.fact 41 (f := .glo "NoObject") rfl)), (He.glo_ok M.kin M.glob (c.d.fact 42 (f := .glo "Clash") rfl)), exN M c hP hF, exP M c hP hF, exO M c hP hF, exX M c hP hF⟩
theorem law_of (M : Mod K mg base) (c : SaysK K) (hP : P.main.scope.names.lookup ("super" : Str) = none) (hF : P.main.file = fileS) : CalG P w K mg base 15 "law" ["_law_script"] (spLaw K) := by
  have B := fr_of M c
  have T := kit_of M c
  have X : Exs P w K mg base := exs_of M c hP hF
  have EM := exm_of c
  have O := own_of c
  obtain ⟨t_ID_LENGTH, g_ID_LENGTH⟩ := He.int_ok M.kin M.glob (c.d.fact 59 (f := .int "ID_LENGTH" 16) rfl)
  obtain ⟨t_MOST_SEGMENT, g_MOST_SEGMENT⟩ := He.int_ok M.kin M.glob (c.d.fact 60 (f := .int "MOST_SEGMENT" 12) rfl)
  obtain ⟨t_MOST_SEGMENTS, g_MOST_SEGMENTS⟩ := He.int_ok M.kin M.glob (c.d.fact 61 (f := .int "MOST_SEGMENTS" 6) rfl)
  obtain ⟨t_MOST_ENTRIES, g_MOST_ENTRIES⟩ := He.int_ok M.kin M.glob (c.d.fact 62 (f := .int "MOST_ENTRIES" 30) rfl)
  obtain ⟨t_LONG, g_LONG⟩ := He.int_ok M.kin M.glob (c.d.fact 63 (f := .int "LONG" 2305843009213693951) rfl)
  obtain ⟨t_SHORT, g_SHORT⟩ := He.int_ok M.kin M.glob (c.d.fact 64 (f := .int "SHORT" 251) rfl)
  obtain ⟨t_FACTOR, g_FACTOR⟩ := He.int_ok M.kin M.glob (c.d.fact 65 (f := .int "FACTOR" 1000003) rfl)
  obtain ⟨t_HEX, g_HEX⟩ := He.str_ok M.kin M.glob (c.d.fact 66 (f := .str "HEX" cHex) rfl)
  obtain ⟨t_SMALL, g_SMALL⟩ := He.str_ok M.kin M.glob (c.d.fact 67 (f := .str "SMALL" cSmall) rfl)
  obtain ⟨t_DIGITS, g_DIGITS⟩ := He.str_ok M.kin M.glob (c.d.fact 68 (f := .str "DIGITS" cDigits) rfl)
  have hKinds : ∀ H, SqT K H (He.ga K "KINDS") kindsV := fun H => He.tupB_ok (c.x 96) H
  have cHas := ok_has_only (P := P) (w := w) (base := base) (⟨(He.glo_ok M.kin M.glob (c.d.fact 0 (f := .glo "has_only") rfl)), c.d.def_ 0 (d := dG_has_only) rfl⟩) B
  have cId := ok_is_id (P := P) (w := w) (base := base) (⟨(He.glo_ok M.kin M.glob (c.d.fact 1 (f := .glo "is_id") rfl)), c.d.def_ 1 (d := dG_is_id) rfl⟩) cHas B g_ID_LENGTH g_HEX
  have cSeg := ok_is_segment (P := P) (w := w) (base := base) (⟨(He.glo_ok M.kin M.glob (c.d.fact 2 (f := .glo "is_segment") rfl)), c.d.def_ 2 (d := dG_is_segment) rfl⟩) cHas B g_MOST_SEGMENT g_SMALL g_DIGITS
  have cPath := ok_is_path (P := P) (w := w) (base := base) (⟨(He.glo_ok M.kin M.glob (c.d.fact 3 (f := .glo "is_path") rfl)), c.d.def_ 3 (d := dG_is_path) rfl⟩) cSeg B g_MOST_SEGMENTS
  have cText := ok_is_text (P := P) (w := w) (base := base) (⟨(He.glo_ok M.kin M.glob (c.d.fact 4 (f := .glo "is_text") rfl)), c.d.def_ 4 (d := dG_is_text) rfl⟩) B
  have cAbove := ok_above (P := P) (w := w) (base := base) (⟨(He.glo_ok M.kin M.glob (c.d.fact 5 (f := .glo "above") rfl)), c.d.def_ 5 (d := dG_above) rfl⟩) B
  have cEntry := ok_is_entry (P := P) (w := w) (base := base) (⟨(He.glo_ok M.kin M.glob (c.d.fact 6 (f := .glo "is_entry") rfl)), c.d.def_ 6 (d := dG_is_entry) rfl⟩) cId B (He.glo_ok M.kin M.glob (c.d.fact 43 (f := .glo "KINDS") rfl)) hKinds
  have cTI := ok_tinit ⟨c.d.def_ 33 (d := dM_Tree_init) rfl⟩ cSeg cEntry T X g_MOST_ENTRIES
  have cTE := ok_tent (P := P) (w := w) (base := base) (plain_of (d := dA1) (c.a 1 (d := dA1)) rfl (c.x 30)) T
  have cTQ := ok_teq (P := P) (w := w) (base := base) ⟨c.d.def_ 34 (d := dM_Tree_eq) rfl⟩ T
  have cBI := ok_binit ⟨c.d.def_ 35 (d := dM_Blob_init) rfl⟩ cText T
  have cBT := ok_btext (P := P) (w := w) (base := base) (plain_of (d := dA0) (c.a 0 (d := dA0)) rfl (c.x 25)) T
  have cBQ := ok_beq (P := P) (w := w) (base := base) ⟨c.d.def_ 36 (d := dM_Blob_eq) rfl⟩ T
  have cIO := ok_isobj (P := P) (w := w) (base := base) (⟨(He.glo_ok M.kin M.glob (c.d.fact 7 (f := .glo "is_object") rfl)), c.d.def_ 7 (d := dG_is_object) rfl⟩) T
  have cEncT := ok_enct (⟨(He.glo_ok M.kin M.glob (c.d.fact 8 (f := .glo "encode_tree") rfl)), c.d.def_ 8 (d := dG_encode_tree) rfl⟩) cTE T
  have cEnc := ok_enc (⟨(He.glo_ok M.kin M.glob (c.d.fact 9 (f := .glo "encode") rfl)), c.d.def_ 9 (d := dG_encode) rfl⟩) cIO cEncT cBT T
  have cSum := ok_sum (P := P) (w := w) (base := base) (⟨(He.glo_ok M.kin M.glob (c.d.fact 10 (f := .glo "sum_of") rfl)), c.d.def_ 10 (d := dG_sum_of) rfl⟩) T g_SHORT g_LONG g_FACTOR
  obtain ⟨cIdK, cIdC⟩ := ok_idof (⟨(He.glo_ok M.kin M.glob (c.d.fact 11 (f := .glo "id_of") rfl)), c.d.def_ 11 (d := dG_id_of) rfl⟩) cEnc cSum
  have cSI := ok_sinit (P := P) (w := w) (base := base) ⟨c.d.def_ 37 (d := dM_Store_init) rfl⟩ T
  have cED := (⟨cBQ, cTQ⟩ : EqDefs P w K mg base)
  have cPut := ok_sput ⟨c.d.def_ 38 (d := dM_Store_put) rfl⟩ cIO cIdK cED T
  have cIds := ok_sids (P := P) (w := w) (base := base) ⟨c.d.def_ 39 (d := dM_Store_ids) rfl⟩ T
  have cCop := ok_scop ⟨c.d.def_ 40 (d := dM_Store_copied) rfl⟩ cSI T
  have cVal := ok_isval (⟨(He.glo_ok M.kin M.glob (c.d.fact 12 (f := .glo "is_value") rfl)), c.d.def_ 12 (d := dG_is_value) rfl⟩) cId B
  have cClash := ok_clash (⟨(He.glo_ok M.kin M.glob (c.d.fact 14 (f := .glo "clashes") rfl)), c.d.def_ 14 (d := dG_clashes) rfl⟩) cAbove B
  have cChk := ok_chk (⟨(He.glo_ok M.kin M.glob (c.d.fact 13 (f := .glo "check_files") rfl)), c.d.def_ 13 (d := dG_check_files) rfl⟩) cPath cVal cClash B X
  have cPB := ok_pb (⟨(He.glo_ok M.kin M.glob (c.d.fact 15 (f := .glo "put_below") rfl)), c.d.def_ 15 (d := dG_put_below) rfl⟩) cTI cPut (He.meth_ok (c.d.fact 79 (f := .meth "Store" "put") rfl)) T
  have cPF := ok_putf 4 ⟨c.d.def_ 41 (d := dM_Store_put_files) rfl⟩ cChk cCop (He.meth_ok (c.d.fact 81 (f := .meth "Store" "copied") rfl)) (cPB 5) T
  have cSHas := ok_has (P := P) (w := w) (base := base) ⟨c.d.def_ 44 (d := dM_Store_contains) rfl⟩ T
  have cSGet := ok_get (P := P) (w := w) (base := base) ⟨c.d.def_ 45 (d := dM_Store_getitem) rfl⟩ T
  have cChkT := ok_chkt ⟨c.d.def_ 43 (d := dM_Store_check_trees) rfl⟩ cSHas (He.eqO_ok (c.x 31)) (c.x 32) T X
  have cFiles := ok_files ⟨c.d.def_ 42 (d := dM_Store_files_of) rfl⟩ cChkT (He.meth_ok (c.d.fact 84 (f := .meth "Store" "check_trees") rfl)) cTI cTE T
  have lCell := ok_cellAt (P := P) (w := w) (base := base) (⟨(He.glo_ok M.kin M.glob (c.d.fact 16 (f := .glo "_law_cell_at") rfl)), c.d.def_ 16 (d := dG_law_cell_at) rfl⟩) B
  have lWell := ok_well (P := P) (w := w) (base := base) (⟨(He.glo_ok M.kin M.glob (c.d.fact 17 (f := .glo "_law_well") rfl)), c.d.def_ 17 (d := dG_law_well) rfl⟩) B
  have lDraw := ok_draw (P := P) (w := w) (base := base) (⟨(He.glo_ok M.kin M.glob (c.d.fact 18 (f := .glo "_law_draw") rfl)), c.d.def_ 18 (d := dG_law_draw) rfl⟩) B
  have lPick := ok_pick (⟨(He.glo_ok M.kin M.glob (c.d.fact 19 (f := .glo "_law_pick") rfl)), c.d.def_ 19 (d := dG_law_pick) rfl⟩) lDraw B
  have lSigns := ok_signs (⟨(He.glo_ok M.kin M.glob (c.d.fact 20 (f := .glo "_law_signs") rfl)), c.d.def_ 20 (d := dG_law_signs) rfl⟩) lDraw B
  have lId := ok_lid (⟨(He.glo_ok M.kin M.glob (c.d.fact 21 (f := .glo "_law_id") rfl)), c.d.def_ 21 (d := dG_law_id) rfl⟩) lSigns
  have lSmall := ok_small (⟨(He.glo_ok M.kin M.glob (c.d.fact 22 (f := .glo "_law_small_path") rfl)), c.d.def_ 22 (d := dG_law_small_path) rfl⟩) lDraw lPick B
  have lFiles := ok_lfiles (⟨(He.glo_ok M.kin M.glob (c.d.fact 23 (f := .glo "_law_files") rfl)), c.d.def_ 23 (d := dG_law_files) rfl⟩) lDraw lPick lSmall B
  have lTwice := ok_twice (⟨(He.glo_ok M.kin M.glob (c.d.fact 24 (f := .glo "_law_twice") rfl)), c.d.def_ 24 (d := dG_law_twice) rfl⟩) lDraw lPick B
  have lTrees := ok_trees (⟨(He.glo_ok M.kin M.glob (c.d.fact 25 (f := .glo "_law_trees") rfl)), c.d.def_ 25 (d := dG_law_trees) rfl⟩) cTI cIdC T
  have lClash := ok_clashL (⟨(He.glo_ok M.kin M.glob (c.d.fact 26 (f := .glo "_law_clash") rfl)), c.d.def_ 26 (d := dG_law_clash) rfl⟩) cIdC cED T
  have lPut := ok_lput 4 (⟨(He.glo_ok M.kin M.glob (c.d.fact 28 (f := .glo "_law_put") rfl)), c.d.def_ 28 (d := dG_law_put) rfl⟩) cPF (He.meth_ok (c.d.fact 82 (f := .meth "Store" "put_files") rfl)) T X EM
  have lRead := ok_lread (⟨(He.glo_ok M.kin M.glob (c.d.fact 29 (f := .glo "_law_read") rfl)), c.d.def_ 29 (d := dG_law_read) rfl⟩) cFiles (He.meth_ok (c.d.fact 83 (f := .meth "Store" "files_of") rfl)) T X EM
  have lTR := ok_tr (⟨(He.glo_ok M.kin M.glob (c.d.fact 27 (f := .glo "_law_tree_right") rfl)), c.d.def_ 27 (d := dG_law_tree_right) rfl⟩) cTE cSGet O T
  have lRef := ok_ref (⟨(He.glo_ok M.kin M.glob (c.d.fact 30 (f := .glo "_law_refused_right") rfl)), c.d.def_ 30 (d := dG_law_refused_right) rfl⟩) lPick lSmall lPut cIds (He.meth_ok (c.d.fact 80 (f := .meth "Store" "ids") rfl)) T EM
  have lHand := ok_hand (⟨(He.glo_ok M.kin M.glob (c.d.fact 31 (f := .glo "_law_hand_right") rfl)), c.d.def_ 31 (d := dG_law_hand_right) rfl⟩) cTI cBI cIdC lId lClash cPut (He.meth_ok (c.d.fact 79 (f := .meth "Store" "put") rfl)) cFiles (He.meth_ok (c.d.fact 83 (f := .meth "Store" "files_of") rfl)) lRead lPick cSHas O T
  exact ok_law (⟨(He.glo_ok M.kin M.glob (c.d.fact 32 (f := .glo "law") rfl)), c.d.def_ 32 (d := dG_law) rfl⟩) lCell lWell cSI lId lFiles lTwice (lTrees 5) lClash cPF (He.meth_ok (c.d.fact 82 (f := .meth "Store" "put_files") rfl)) cIds (He.meth_ok (c.d.fact 80 (f := .meth "Store" "ids") rfl)) cFiles (He.meth_ok (c.d.fact 83 (f := .meth "Store" "files_of") rfl)) (lTR 5) lRef lHand T
end
end FK

set_option maxHeartbeats 0
open PySem PySem.W PySem.Calls PyProof.Rows
theorem PySem.Challenge.cw_forkhaul_k08_whole_files_and_trees_holds : PySem.Challenge.rw_forkhaul_k08_whole_files_and_trees.Holds := by
  w_on; o_law
  refine HandSHeadRun.head_any (r := OpenLaw.row PySem.Challenge.rw_forkhaul_k08_whole_files_and_trees) (q := view (OpenLaw.row PySem.Challenge.rw_forkhaul_k08_whole_files_and_trees).prog [76]) (H := FK.hookK) (ob := FK.obK) (M := 8000) (loose := FK.looseK) (d := HandSHeadRun.topDef (OpenLaw.row PySem.Challenge.rw_forkhaul_k08_whole_files_and_trees).prog 76) (kwd := []) FK.obK_eq
    FKH.h1 FKH.h2 FK.runK FKH.h3 FKH.h4 FKH.h5 FKH.h6 FKH.h7 FKH.h8 FKH.h9 FKH.h10 ?hc
  case hc =>
    refine FK.walkG (l := PySem.Challenge.rw_forkhaul_k08_whole_files_and_trees) (n := 63) (k := 15) (x := "_law_script") rfl (by decide) (by kernel_rfl) ⟨rfl, by decide, by decide⟩ ?F
    intro w mg fa h Y G hmg0
    obtain ⟨K, KX, c⟩ := Y
    have hmg : mg ("law" : PySem.Str) = some (.ref fa) := by
      have e : (HandSHeadRun.topDef (OpenLaw.row PySem.Challenge.rw_forkhaul_k08_whole_files_and_trees).prog 76).name = ("law" : PySem.Str) := by kernel_rfl
      rw [← e]
      exact hmg0
    have e := hmg.symm.trans (He.glo_ok KX G (c.d.fact 32 (f := .glo "law") rfl))
    cases e
    exact ⟨K, FK.spLaw K, KX, rfl, fun H a ns hl hO hS => ⟨a, ns, rfl, hS, hO, hl, fun _ => rfl⟩, fun base M => FK.law_of M c (by decide +kernel) (by decide +kernel)⟩
