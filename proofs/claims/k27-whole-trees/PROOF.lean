import PyProof.Rows.All
import Wide.All
import OpenK.AllK
import Wide.FinOn
import HandS.ForMost
import HandS.Exc
import HandS.ExcInit
import HandS.ExcIs
import HandS.ExcField
import HandS.Defaults
import HandS.HeadHook1
import HandS.HeadHook2
import KE.KExcSuper
import KE.KIsAll
import PySem.Challenge.RW_livecopy_k27_whole_trees
import KE.KStateDown
import Lean
import HandS.Head0
import HandS.Head1
import HandS.Head2
import HandS.HeadEnd
import HandS.IterVal
import HandS.OwnEq
import HandS.WideBits
import HandS.TupAny
import HandS.TupSets
import HandS.DictComp
import HandS.More
import HandS.Conv
import HandS.MakeKw
import HandS.IsInst
import KE.KOwnIter
import OpenK.KMeth
import OpenK.KOps
import HandS.ExcSuper
import HandS.Text
import HandS.Base
import HandS.Evl
import HandS.SortInts
import HandS.SortOrd
import HandS.ExcOwn
import KE.KExcIs
import HandS.WordsExc
import KE.KSortTup
set_option Elab.async false
set_option linter.all false
set_option maxRecDepth 100000
set_option maxHeartbeats 4000000
/-! K27Text: the places of the defs in the row's top; what the head looks at. -/
namespace K27
open PySem PySem.Spec PyProof.Rows L2

def topS (i : Nat) : Stmt := PySem.Challenge.pw_livecopy_k27_whole_trees.main.body.getD i (.Pass ⟨0, 0, 0, 0⟩)
abbrev s_XUnknownPatch : Stmt := inClass (topS 6) 0
abbrev s_XNotATree : Stmt := inClass (topS 12) 0
abbrev s_least_number : Stmt := topS 14
abbrev s_checked_writes : Stmt := topS 15
abbrev s_Binit : Stmt := inClass (topS 16) 0
abbrev s_Bmake_patch : Stmt := inClass (topS 16) 1
abbrev s_Bnew_bars : Stmt := inClass (topS 16) 2
abbrev s_Bmembers : Stmt := inClass (topS 16) 3
abbrev s_Bcheck_number : Stmt := inClass (topS 16) 4
abbrev s_Bneeds_mask : Stmt := inClass (topS 16) 11
abbrev s_Bbars_mask : Stmt := inClass (topS 16) 12
abbrev s_Brequired : Stmt := inClass (topS 16) 13
abbrev s_Bmask_of : Stmt := inClass (topS 16) 16
abbrev s_Bholds : Stmt := inClass (topS 16) 17
abbrev s_Blen : Stmt := inClass (topS 16) 18
abbrev s_Biter : Stmt := inClass (topS 16) 19
abbrev s_Bcontains : Stmt := inClass (topS 16) 20
abbrev s_independent_pair : Stmt := topS 18
abbrev s_need_tree : Stmt := topS 19
abbrev s_tree_versions : Stmt := topS 20
abbrev s_tree_parent : Stmt := topS 21
abbrev s_grown : Stmt := topS 23
abbrev s_all_versions : Stmt := topS 24
abbrev s_l_source : Stmt := topS 26
abbrev s_l_draw : Stmt := topS 27
abbrev s_l_needs : Stmt := topS 28
abbrev s_l_bars : Stmt := topS 29
abbrev s_l_writes : Stmt := topS 30
abbrev s_l_grow : Stmt := topS 31
abbrev s_l_model : Stmt := topS 32
abbrev s_l_book : Stmt := topS 33
abbrev s_l_tree : Stmt := topS 34
abbrev s_l_fits : Stmt := topS 35
abbrev s_l_all : Stmt := topS 36
abbrev s_l_put : Stmt := topS 37
abbrev s_l_rich : Stmt := topS 38
abbrev s_l_world : Stmt := topS 39
abbrev s_l_integer : Stmt := topS 40
abbrev s_l_tuple : Stmt := topS 41
abbrev s_l_is_version : Stmt := topS 42
abbrev s_l_pair : Stmt := topS 43
abbrev s_l_told : Stmt := topS 44
abbrev s_l_list_of : Stmt := topS 45
abbrev s_l_chains : Stmt := topS 46
abbrev s_l_is_tree : Stmt := topS 47
abbrev s_l_is_no_tree : Stmt := topS 48
abbrev s_l_agrees : Stmt := topS 49
abbrev s_law : Stmt := topS 50
def d_least_number : He.DefD := ⟨("least_number", none), "least_number", "least_number", defArgs s_least_number, defBody s_least_number, defScope s_least_number, [], []⟩
def d_checked_writes : He.DefD := ⟨("checked_writes", none), "checked_writes", "checked_writes", defArgs s_checked_writes, defBody s_checked_writes, defScope s_checked_writes, [], []⟩
def d_Binit : He.DefD := ⟨("Book", some "__init__"), "__init__", "Book.__init__", defArgs s_Binit, defBody s_Binit, defScope s_Binit, [], []⟩
def d_Bmake_patch : He.DefD := ⟨("Book", some "make_patch"), "make_patch", "Book.make_patch", defArgs s_Bmake_patch, defBody s_Bmake_patch, defScope s_Bmake_patch, [], []⟩
def d_Bnew_bars : He.DefD := ⟨("Book", some "_new_bars"), "_new_bars", "Book._new_bars", defArgs s_Bnew_bars, defBody s_Bnew_bars, defScope s_Bnew_bars, [], []⟩
def d_Bmembers : He.DefD := ⟨("Book", some "_members"), "_members", "Book._members", defArgs s_Bmembers, defBody s_Bmembers, defScope s_Bmembers, [], []⟩
def d_Bcheck_number : He.DefD := ⟨("Book", some "check_number"), "check_number", "Book.check_number", defArgs s_Bcheck_number, defBody s_Bcheck_number, defScope s_Bcheck_number, [], []⟩
def d_Bneeds_mask : He.DefD := ⟨("Book", some "needs_mask"), "needs_mask", "Book.needs_mask", defArgs s_Bneeds_mask, defBody s_Bneeds_mask, defScope s_Bneeds_mask, [], []⟩
def d_Bbars_mask : He.DefD := ⟨("Book", some "bars_mask"), "bars_mask", "Book.bars_mask", defArgs s_Bbars_mask, defBody s_Bbars_mask, defScope s_Bbars_mask, [], []⟩
def d_Brequired : He.DefD := ⟨("Book", some "required"), "required", "Book.required", defArgs s_Brequired, defBody s_Brequired, defScope s_Brequired, [], []⟩
def d_Bmask_of : He.DefD := ⟨("Book", some "mask_of"), "mask_of", "Book.mask_of", defArgs s_Bmask_of, defBody s_Bmask_of, defScope s_Bmask_of, [], []⟩
def d_Bholds : He.DefD := ⟨("Book", some "holds"), "holds", "Book.holds", defArgs s_Bholds, defBody s_Bholds, defScope s_Bholds, [], []⟩
def d_Blen : He.DefD := ⟨("Book", some "__len__"), "__len__", "Book.__len__", defArgs s_Blen, defBody s_Blen, defScope s_Blen, [], []⟩
def d_Biter : He.DefD := ⟨("Book", some "__iter__"), "__iter__", "Book.__iter__", defArgs s_Biter, defBody s_Biter, defScope s_Biter, [], []⟩
def d_Bcontains : He.DefD := ⟨("Book", some "__contains__"), "__contains__", "Book.__contains__", defArgs s_Bcontains, defBody s_Bcontains, defScope s_Bcontains, [], []⟩
def d_independent_pair : He.DefD := ⟨("independent_pair", none), "independent_pair", "independent_pair", defArgs s_independent_pair, defBody s_independent_pair, defScope s_independent_pair, [], []⟩
def d_need_tree : He.DefD := ⟨("need_tree", none), "need_tree", "need_tree", defArgs s_need_tree, defBody s_need_tree, defScope s_need_tree, [], []⟩
def d_tree_versions : He.DefD := ⟨("tree_versions", none), "tree_versions", "tree_versions", defArgs s_tree_versions, defBody s_tree_versions, defScope s_tree_versions, [], []⟩
def d_tree_parent : He.DefD := ⟨("tree_parent", none), "tree_parent", "tree_parent", defArgs s_tree_parent, defBody s_tree_parent, defScope s_tree_parent, [], []⟩
def d_grown : He.DefD := ⟨("grown", none), "grown", "grown", defArgs s_grown, defBody s_grown, defScope s_grown, [], []⟩
def d_all_versions : He.DefD := ⟨("all_versions", none), "all_versions", "all_versions", defArgs s_all_versions, defBody s_all_versions, defScope s_all_versions, [.int 64], []⟩
def d_l_source : He.DefD := ⟨("_law_source", none), "_law_source", "_law_source", defArgs s_l_source, defBody s_l_source, defScope s_l_source, [], []⟩
def d_l_draw : He.DefD := ⟨("_law_draw", none), "_law_draw", "_law_draw", defArgs s_l_draw, defBody s_l_draw, defScope s_l_draw, [], []⟩
def d_l_needs : He.DefD := ⟨("_law_needs", none), "_law_needs", "_law_needs", defArgs s_l_needs, defBody s_l_needs, defScope s_l_needs, [], []⟩
def d_l_bars : He.DefD := ⟨("_law_bars", none), "_law_bars", "_law_bars", defArgs s_l_bars, defBody s_l_bars, defScope s_l_bars, [], []⟩
def d_l_writes : He.DefD := ⟨("_law_writes", none), "_law_writes", "_law_writes", defArgs s_l_writes, defBody s_l_writes, defScope s_l_writes, [], []⟩
def d_l_grow : He.DefD := ⟨("_law_grow", none), "_law_grow", "_law_grow", defArgs s_l_grow, defBody s_l_grow, defScope s_l_grow, [], []⟩
def d_l_model : He.DefD := ⟨("_law_model", none), "_law_model", "_law_model", defArgs s_l_model, defBody s_l_model, defScope s_l_model, [], []⟩
def d_l_book : He.DefD := ⟨("_law_book", none), "_law_book", "_law_book", defArgs s_l_book, defBody s_l_book, defScope s_l_book, [], []⟩
def d_l_tree : He.DefD := ⟨("_law_tree", none), "_law_tree", "_law_tree", defArgs s_l_tree, defBody s_l_tree, defScope s_l_tree, [], []⟩
def d_l_fits : He.DefD := ⟨("_law_fits", none), "_law_fits", "_law_fits", defArgs s_l_fits, defBody s_l_fits, defScope s_l_fits, [], []⟩
def d_l_all : He.DefD := ⟨("_law_all", none), "_law_all", "_law_all", defArgs s_l_all, defBody s_l_all, defScope s_l_all, [], []⟩
def d_l_put : He.DefD := ⟨("_law_put", none), "_law_put", "_law_put", defArgs s_l_put, defBody s_l_put, defScope s_l_put, [], []⟩
def d_l_rich : He.DefD := ⟨("_law_rich", none), "_law_rich", "_law_rich", defArgs s_l_rich, defBody s_l_rich, defScope s_l_rich, [], []⟩
def d_l_world : He.DefD := ⟨("_law_world", none), "_law_world", "_law_world", defArgs s_l_world, defBody s_l_world, defScope s_l_world, [], []⟩
def d_l_integer : He.DefD := ⟨("_law_integer", none), "_law_integer", "_law_integer", defArgs s_l_integer, defBody s_l_integer, defScope s_l_integer, [], []⟩
def d_l_tuple : He.DefD := ⟨("_law_tuple", none), "_law_tuple", "_law_tuple", defArgs s_l_tuple, defBody s_l_tuple, defScope s_l_tuple, [], []⟩
def d_l_is_version : He.DefD := ⟨("_law_is_version", none), "_law_is_version", "_law_is_version", defArgs s_l_is_version, defBody s_l_is_version, defScope s_l_is_version, [], []⟩
def d_l_pair : He.DefD := ⟨("_law_pair", none), "_law_pair", "_law_pair", defArgs s_l_pair, defBody s_l_pair, defScope s_l_pair, [], []⟩
def d_l_told : He.DefD := ⟨("_law_told", none), "_law_told", "_law_told", defArgs s_l_told, defBody s_l_told, defScope s_l_told, [], []⟩
def d_l_list_of : He.DefD := ⟨("_law_list_of", none), "_law_list_of", "_law_list_of", defArgs s_l_list_of, defBody s_l_list_of, defScope s_l_list_of, [], []⟩
def d_l_chains : He.DefD := ⟨("_law_chains", none), "_law_chains", "_law_chains", defArgs s_l_chains, defBody s_l_chains, defScope s_l_chains, [], []⟩
def d_l_is_tree : He.DefD := ⟨("_law_is_tree", none), "_law_is_tree", "_law_is_tree", defArgs s_l_is_tree, defBody s_l_is_tree, defScope s_l_is_tree, [], []⟩
def d_l_is_no_tree : He.DefD := ⟨("_law_is_no_tree", none), "_law_is_no_tree", "_law_is_no_tree", defArgs s_l_is_no_tree, defBody s_l_is_no_tree, defScope s_l_is_no_tree, [], []⟩
def d_l_agrees : He.DefD := ⟨("_law_agrees", none), "_law_agrees", "_law_agrees", defArgs s_l_agrees, defBody s_l_agrees, defScope s_l_agrees, [], []⟩
def d_law : He.DefD := ⟨("law", none), "law", "law", defArgs s_law, defBody s_law, defScope s_law, [], []⟩
def fn : List He.DefD := [d_least_number, d_checked_writes, d_Binit, d_Bmake_patch, d_Bnew_bars, d_Bmembers, d_Bcheck_number, d_Bneeds_mask, d_Bbars_mask, d_Brequired, d_Bmask_of, d_Bholds, d_Blen, d_Biter, d_Bcontains, d_independent_pair, d_need_tree, d_tree_versions, d_tree_parent, d_grown, d_all_versions, d_l_source, d_l_draw, d_l_needs, d_l_bars, d_l_writes, d_l_grow, d_l_model, d_l_book, d_l_tree, d_l_fits, d_l_all, d_l_put, d_l_rich, d_l_world, d_l_integer, d_l_tuple, d_l_is_version, d_l_pair, d_l_told, d_l_list_of, d_l_chains, d_l_is_tree, d_l_is_no_tree, d_l_agrees, d_law]
def fa : List He.Fa := [.glo "LivecopyError", .glo "BadCell", .glo "EmptyPatch", .glo "DuplicateCell", .glo "UnknownPatch", .glo "BadSize", .glo "Conflict", .glo "NotAVersion", .glo "NotInside", .glo "TooMany", .glo "NotATree", .glo "least_number", .glo "checked_writes", .glo "Book", .glo "independent_pair", .glo "need_tree", .glo "tree_versions", .glo "tree_parent", .glo "grown", .glo "all_versions", .glo "_law_source", .glo "_law_draw", .glo "_law_needs", .glo "_law_bars", .glo "_law_writes", .glo "_law_grow", .glo "_law_model", .glo "_law_book", .glo "_law_tree", .glo "_law_fits", .glo "_law_all", .glo "_law_put", .glo "_law_rich", .glo "_law_world", .glo "_law_integer", .glo "_law_tuple", .glo "_law_is_version", .glo "_law_pair", .glo "_law_told", .glo "_law_list_of", .glo "_law_chains", .glo "_law_is_tree", .glo "_law_is_no_tree", .glo "_law_agrees", .glo "law", .free "len", .free "sorted", .free "list", .free "range", .free "tuple", .free "int", .free "bool", .free "abs", .free "isinstance", .free "max", .free "min", .free "iter", .free "super", .free "ValueError", .cls "Book", .noat "Book" "cells", .noat "Book" "_base", .noat "Book" "_numbers", .noat "Book" "_values", .noat "Book" "_sizes", .noat "Book" "_needs", .noat "Book" "_bars", .noat "Book" "_writers", .meth "Book" "__init__", .meth "Book" "make_patch", .meth "Book" "_new_bars", .meth "Book" "_members", .meth "Book" "check_number", .meth "Book" "needs_mask", .meth "Book" "bars_mask", .meth "Book" "required", .meth "Book" "mask_of", .meth "Book" "holds", .meth "Book" "__len__", .meth "Book" "__iter__", .meth "Book" "__contains__", .mkr "Book"]

/-! ### the errors' facts -/
open PySem.W in
/-- an own error class over ValueError, its __init__ stored with the class's cell; fs: its fields -/
def exOne (K : PySem.W.Frag) (x q : Str) (st : Stmt) (fs : List Str) : Bool :=
  let C := He.ga K x
  let f := He.ma K C "__init__"
  (match K.lookup C with
    | some ⟨.type "type", _, .cls cd, sl⟩ => (match cd.mro, sl.toList with
      | .ref C' :: bm, [_, _, _, _, some (.builtin n), _] => decide (C' = C) && (decide (n = "ValueError.__new__") && (!cd.hasDel && (cd.hasDict && PySem.HandSPX.refsVE bm)))
      | _, _ => false)
    | _ => false) &&
  (He.eqO (findIn K (.ref C) "__setattr__") (some (some (.builtin "object.__setattr__"))) &&
  (decide (subIn K (.ref C) (.type "BaseException") = some true) && (decide (typeIn K (.ref C) = some (.type "type")) && (keepIn K (.ref C) &&
  (He.eqO (findIn K (.ref C) "__init__") (some (some (.ref f))) && (decide (typeIn K (.ref f) = some (.type "function")) &&
  (fs.all (fun g => He.eqO (findIn K (.ref C) g) (some none)) &&
  (He.eqO (ks_superIn K C C "__init__") (some (some (.builtin "ValueError.__init__"))) &&
  (decide (mroIn K C (.ref C) = some true) && (decide (subIn K (.ref C) (.type "ValueError") = some true) &&
  (match K.lookup f with
    | some ⟨_, _, .func fd, _⟩ => codeIn K fd.code q && ((match fd.code with
      | .ref c => (match K.lookup c with
        | some ⟨_, _, .fields vs, _⟩ => (match (vs[2]? : Option Value) with
          | some (.str file _) => (PySem.Challenge.pw_livecopy_k27_whole_trees.main.file : Str) == file
          | _ => false)
        | _ => false)
      | _ => false) && (match fd.closure with
      | [(n, c)] => decide (n = "__class__") && (match K.lookup c with
        | some ⟨_, _, .cell (some (.ref D)), _⟩ => decide (D = C)
        | _ => false)
      | _ => false))
    | _ => false)))))))))))
/-- what isinstance and a field's read ask -/
def exIs (K : PySem.W.Frag) (x : Str) : Bool :=
  let C := He.ga K x
  He.eqO (PySem.W.findIn K (.ref C) "__getattribute__") (some (some (.builtin "BaseException.__getattribute__"))) && (He.eqO (PySem.W.findIn K (.ref C) "__getattr__") (some none) &&
  (decide (PySem.W.subIn K (.ref C) (.type "BaseException") = some true) && (PySem.W.hasDictIn K C && (He.eqO (PySem.W.findIn K (.ref C) "__class__") (some (some (.builtin "object.__class__"))) &&
  (He.eqO (PySem.W.specialIn K (.builtin "object.__class__") "__get__") (some (some (.builtin "getset_descriptor.__get__"))) && (decide (PySem.W.takesIn K (.builtin "object.__class__") = some true) && decide (PySem.W.mroIn K C (.type "object") = some true)))))))
def exNames : List Str := ["BadCell", "EmptyPatch", "DuplicateCell", "BadSize", "Conflict", "NotAVersion", "NotInside", "TooMany"]
/-- which classes an error of class x is of -/
def exKit (K : PySem.W.Frag) (x : Str) : Bool :=
  let C := Value.ref (He.ga K x)
  decide (PySem.W.exmOne K C (.ref (He.ga K "LivecopyError")) = some true) && (decide (PySem.W.kitOne K C (.type "ValueError") = some true) &&
  (exNames.all (fun y => decide (PySem.W.kitOne K C (.ref (He.ga K y)) = some false)) &&
  (["NotATree", "UnknownPatch"].all fun y => decide (PySem.W.kitOne K C (.ref (He.ga K y)) = some (decide (x = y))))))
abbrev FnE : Type := Option (Str × Str × Arguments × FuncBody × Scope × Addr × Value × Addr)
def fnE (K : PySem.W.Frag) (x : Str) : FnE := match K.lookup (He.ma K (He.ga K x) "__init__") with
  | some ⟨_, _, .func fd, _⟩ => some (fd.name, fd.qualname, fd.params, fd.body, fd.scope, fd.globals, fd.defaults, fd.builtins)
  | _ => none
def fnEv (q : Str) (st : Stmt) : FnE := some ("__init__", q, defArgs st, .stmts (defBody st), defScope st, mainGlobals, .none, builtinsNs)
def exB (K : PySem.W.Frag) : Bool :=
  exOne K "UnknownPatch" "UnknownPatch.__init__" s_XUnknownPatch ["number"] && (exOne K "NotATree" "NotATree.__init__" s_XNotATree ["first", "second"] &&
  (exIs K "UnknownPatch" && (exIs K "NotATree" && (exKit K "UnknownPatch" && (exKit K "NotATree" && He.eqO (PySem.W.nsIn K cStatics "thirdparty.any") (some none))))))

/-! ### the Hook -/
abbrev AlM : Type := He.AlD × Bool × List FnE
def obsM (K : PySem.W.Frag) : AlM := (He.obsD fa fn K, exB K, [fnE K "UnknownPatch", fnE K "NotATree"])
def valM : AlM := (He.valD fn, true, [fnEv "UnknownPatch.__init__" s_XUnknownPatch, fnEv "NotATree.__init__" s_XNotATree])
def asM (g : Addr → Option Obj) : List Addr := cStatics :: He.asD g 5
def obsMG (g : Addr → Option Obj) : AlM := obsM (He.frG g (asM g))
def hk : PySem.W.Hook where
  α := AlM
  obs := fun s => obsMG s.heap.get?
  val := fun _ => valM
  says := fun _ h => ∃ K : PySem.W.Frag, K.In h ∧ obsM K = valM
  of := fun _ _ e => ⟨_, He.frG_in, e⟩
  keeps := fun _ _ _ ⟨K, hK, c⟩ k => ⟨K, PySem.W.Frag.In.keeps hK k, c⟩
theorem obsMG_eq {g : Addr → Option Obj} {s : Shared} (h : ∀ a, g a = s.heap.get? a) : obsMG g = hk.obs s := by
  have e : g = s.heap.get? := funext h
  rw [e] <;> rfl
/-- all that the text's walks lean on -/
structure Txt (K : PySem.W.Frag) (mg : Str → Option Value) : Prop where
  ns : ∃ h, K.In h ∧ h.Ns mainGlobals mg
  c : He.SaysD fa fn K
  e : exB K = true
  f : [fnE K "UnknownPatch", fnE K "NotATree"] = [fnEv "UnknownPatch.__init__" s_XUnknownPatch, fnEv "NotATree.__init__" s_XNotATree]
section
variable {K : PySem.W.Frag} {mg : Str → Option Value}
theorem Txt.of {h : Heap} (X : K.In h) (G : h.Ns mainGlobals mg) (e : obsM K = valM) : Txt K mg :=
  ⟨⟨h, X, G⟩, congrArg (fun z : AlM => z.1) e, congrArg (fun z : AlM => z.2.1) e, congrArg (fun z : AlM => z.2.2) e⟩
theorem Txt.g_LivecopyError (T : Txt K mg) : mg "LivecopyError" = some (.ref (He.ga K "LivecopyError")) := let ⟨_, X, G⟩ := T.ns; He.glo_ok X G (T.c.fact 0 (f := .glo "LivecopyError") rfl)
theorem Txt.g_BadCell (T : Txt K mg) : mg "BadCell" = some (.ref (He.ga K "BadCell")) := let ⟨_, X, G⟩ := T.ns; He.glo_ok X G (T.c.fact 1 (f := .glo "BadCell") rfl)
theorem Txt.g_EmptyPatch (T : Txt K mg) : mg "EmptyPatch" = some (.ref (He.ga K "EmptyPatch")) := let ⟨_, X, G⟩ := T.ns; He.glo_ok X G (T.c.fact 2 (f := .glo "EmptyPatch") rfl)
theorem Txt.g_DuplicateCell (T : Txt K mg) : mg "DuplicateCell" = some (.ref (He.ga K "DuplicateCell")) := let ⟨_, X, G⟩ := T.ns; He.glo_ok X G (T.c.fact 3 (f := .glo "DuplicateCell") rfl)
theorem Txt.g_UnknownPatch (T : Txt K mg) : mg "UnknownPatch" = some (.ref (He.ga K "UnknownPatch")) := let ⟨_, X, G⟩ := T.ns; He.glo_ok X G (T.c.fact 4 (f := .glo "UnknownPatch") rfl)
theorem Txt.g_BadSize (T : Txt K mg) : mg "BadSize" = some (.ref (He.ga K "BadSize")) := let ⟨_, X, G⟩ := T.ns; He.glo_ok X G (T.c.fact 5 (f := .glo "BadSize") rfl)
theorem Txt.g_Conflict (T : Txt K mg) : mg "Conflict" = some (.ref (He.ga K "Conflict")) := let ⟨_, X, G⟩ := T.ns; He.glo_ok X G (T.c.fact 6 (f := .glo "Conflict") rfl)
theorem Txt.g_NotAVersion (T : Txt K mg) : mg "NotAVersion" = some (.ref (He.ga K "NotAVersion")) := let ⟨_, X, G⟩ := T.ns; He.glo_ok X G (T.c.fact 7 (f := .glo "NotAVersion") rfl)
theorem Txt.g_NotInside (T : Txt K mg) : mg "NotInside" = some (.ref (He.ga K "NotInside")) := let ⟨_, X, G⟩ := T.ns; He.glo_ok X G (T.c.fact 8 (f := .glo "NotInside") rfl)
theorem Txt.g_TooMany (T : Txt K mg) : mg "TooMany" = some (.ref (He.ga K "TooMany")) := let ⟨_, X, G⟩ := T.ns; He.glo_ok X G (T.c.fact 9 (f := .glo "TooMany") rfl)
theorem Txt.g_NotATree (T : Txt K mg) : mg "NotATree" = some (.ref (He.ga K "NotATree")) := let ⟨_, X, G⟩ := T.ns; He.glo_ok X G (T.c.fact 10 (f := .glo "NotATree") rfl)
theorem Txt.g_least_number (T : Txt K mg) : mg "least_number" = some (.ref (He.ga K "least_number")) := let ⟨_, X, G⟩ := T.ns; He.glo_ok X G (T.c.fact 11 (f := .glo "least_number") rfl)
theorem Txt.g_checked_writes (T : Txt K mg) : mg "checked_writes" = some (.ref (He.ga K "checked_writes")) := let ⟨_, X, G⟩ := T.ns; He.glo_ok X G (T.c.fact 12 (f := .glo "checked_writes") rfl)
theorem Txt.g_Book (T : Txt K mg) : mg "Book" = some (.ref (He.ga K "Book")) := let ⟨_, X, G⟩ := T.ns; He.glo_ok X G (T.c.fact 13 (f := .glo "Book") rfl)
theorem Txt.g_independent_pair (T : Txt K mg) : mg "independent_pair" = some (.ref (He.ga K "independent_pair")) := let ⟨_, X, G⟩ := T.ns; He.glo_ok X G (T.c.fact 14 (f := .glo "independent_pair") rfl)
theorem Txt.g_need_tree (T : Txt K mg) : mg "need_tree" = some (.ref (He.ga K "need_tree")) := let ⟨_, X, G⟩ := T.ns; He.glo_ok X G (T.c.fact 15 (f := .glo "need_tree") rfl)
theorem Txt.g_tree_versions (T : Txt K mg) : mg "tree_versions" = some (.ref (He.ga K "tree_versions")) := let ⟨_, X, G⟩ := T.ns; He.glo_ok X G (T.c.fact 16 (f := .glo "tree_versions") rfl)
theorem Txt.g_tree_parent (T : Txt K mg) : mg "tree_parent" = some (.ref (He.ga K "tree_parent")) := let ⟨_, X, G⟩ := T.ns; He.glo_ok X G (T.c.fact 17 (f := .glo "tree_parent") rfl)
theorem Txt.g_grown (T : Txt K mg) : mg "grown" = some (.ref (He.ga K "grown")) := let ⟨_, X, G⟩ := T.ns; He.glo_ok X G (T.c.fact 18 (f := .glo "grown") rfl)
theorem Txt.g_all_versions (T : Txt K mg) : mg "all_versions" = some (.ref (He.ga K "all_versions")) := let ⟨_, X, G⟩ := T.ns; He.glo_ok X G (T.c.fact 19 (f := .glo "all_versions") rfl)
theorem Txt.g_l_source (T : Txt K mg) : mg "_law_source" = some (.ref (He.ga K "_law_source")) := let ⟨_, X, G⟩ := T.ns; He.glo_ok X G (T.c.fact 20 (f := .glo "_law_source") rfl)
theorem Txt.g_l_draw (T : Txt K mg) : mg "_law_draw" = some (.ref (He.ga K "_law_draw")) := let ⟨_, X, G⟩ := T.ns; He.glo_ok X G (T.c.fact 21 (f := .glo "_law_draw") rfl)
theorem Txt.g_l_needs (T : Txt K mg) : mg "_law_needs" = some (.ref (He.ga K "_law_needs")) := let ⟨_, X, G⟩ := T.ns; He.glo_ok X G (T.c.fact 22 (f := .glo "_law_needs") rfl)
theorem Txt.g_l_bars (T : Txt K mg) : mg "_law_bars" = some (.ref (He.ga K "_law_bars")) := let ⟨_, X, G⟩ := T.ns; He.glo_ok X G (T.c.fact 23 (f := .glo "_law_bars") rfl)
theorem Txt.g_l_writes (T : Txt K mg) : mg "_law_writes" = some (.ref (He.ga K "_law_writes")) := let ⟨_, X, G⟩ := T.ns; He.glo_ok X G (T.c.fact 24 (f := .glo "_law_writes") rfl)
theorem Txt.g_l_grow (T : Txt K mg) : mg "_law_grow" = some (.ref (He.ga K "_law_grow")) := let ⟨_, X, G⟩ := T.ns; He.glo_ok X G (T.c.fact 25 (f := .glo "_law_grow") rfl)
theorem Txt.g_l_model (T : Txt K mg) : mg "_law_model" = some (.ref (He.ga K "_law_model")) := let ⟨_, X, G⟩ := T.ns; He.glo_ok X G (T.c.fact 26 (f := .glo "_law_model") rfl)
theorem Txt.g_l_book (T : Txt K mg) : mg "_law_book" = some (.ref (He.ga K "_law_book")) := let ⟨_, X, G⟩ := T.ns; He.glo_ok X G (T.c.fact 27 (f := .glo "_law_book") rfl)
theorem Txt.g_l_tree (T : Txt K mg) : mg "_law_tree" = some (.ref (He.ga K "_law_tree")) := let ⟨_, X, G⟩ := T.ns; He.glo_ok X G (T.c.fact 28 (f := .glo "_law_tree") rfl)
theorem Txt.g_l_fits (T : Txt K mg) : mg "_law_fits" = some (.ref (He.ga K "_law_fits")) := let ⟨_, X, G⟩ := T.ns; He.glo_ok X G (T.c.fact 29 (f := .glo "_law_fits") rfl)
theorem Txt.g_l_all (T : Txt K mg) : mg "_law_all" = some (.ref (He.ga K "_law_all")) := let ⟨_, X, G⟩ := T.ns; He.glo_ok X G (T.c.fact 30 (f := .glo "_law_all") rfl)
theorem Txt.g_l_put (T : Txt K mg) : mg "_law_put" = some (.ref (He.ga K "_law_put")) := let ⟨_, X, G⟩ := T.ns; He.glo_ok X G (T.c.fact 31 (f := .glo "_law_put") rfl)
theorem Txt.g_l_rich (T : Txt K mg) : mg "_law_rich" = some (.ref (He.ga K "_law_rich")) := let ⟨_, X, G⟩ := T.ns; He.glo_ok X G (T.c.fact 32 (f := .glo "_law_rich") rfl)
theorem Txt.g_l_world (T : Txt K mg) : mg "_law_world" = some (.ref (He.ga K "_law_world")) := let ⟨_, X, G⟩ := T.ns; He.glo_ok X G (T.c.fact 33 (f := .glo "_law_world") rfl)
theorem Txt.g_l_integer (T : Txt K mg) : mg "_law_integer" = some (.ref (He.ga K "_law_integer")) := let ⟨_, X, G⟩ := T.ns; He.glo_ok X G (T.c.fact 34 (f := .glo "_law_integer") rfl)
theorem Txt.g_l_tuple (T : Txt K mg) : mg "_law_tuple" = some (.ref (He.ga K "_law_tuple")) := let ⟨_, X, G⟩ := T.ns; He.glo_ok X G (T.c.fact 35 (f := .glo "_law_tuple") rfl)
theorem Txt.g_l_is_version (T : Txt K mg) : mg "_law_is_version" = some (.ref (He.ga K "_law_is_version")) := let ⟨_, X, G⟩ := T.ns; He.glo_ok X G (T.c.fact 36 (f := .glo "_law_is_version") rfl)
theorem Txt.g_l_pair (T : Txt K mg) : mg "_law_pair" = some (.ref (He.ga K "_law_pair")) := let ⟨_, X, G⟩ := T.ns; He.glo_ok X G (T.c.fact 37 (f := .glo "_law_pair") rfl)
theorem Txt.g_l_told (T : Txt K mg) : mg "_law_told" = some (.ref (He.ga K "_law_told")) := let ⟨_, X, G⟩ := T.ns; He.glo_ok X G (T.c.fact 38 (f := .glo "_law_told") rfl)
theorem Txt.g_l_list_of (T : Txt K mg) : mg "_law_list_of" = some (.ref (He.ga K "_law_list_of")) := let ⟨_, X, G⟩ := T.ns; He.glo_ok X G (T.c.fact 39 (f := .glo "_law_list_of") rfl)
theorem Txt.g_l_chains (T : Txt K mg) : mg "_law_chains" = some (.ref (He.ga K "_law_chains")) := let ⟨_, X, G⟩ := T.ns; He.glo_ok X G (T.c.fact 40 (f := .glo "_law_chains") rfl)
theorem Txt.g_l_is_tree (T : Txt K mg) : mg "_law_is_tree" = some (.ref (He.ga K "_law_is_tree")) := let ⟨_, X, G⟩ := T.ns; He.glo_ok X G (T.c.fact 41 (f := .glo "_law_is_tree") rfl)
theorem Txt.g_l_is_no_tree (T : Txt K mg) : mg "_law_is_no_tree" = some (.ref (He.ga K "_law_is_no_tree")) := let ⟨_, X, G⟩ := T.ns; He.glo_ok X G (T.c.fact 42 (f := .glo "_law_is_no_tree") rfl)
theorem Txt.g_l_agrees (T : Txt K mg) : mg "_law_agrees" = some (.ref (He.ga K "_law_agrees")) := let ⟨_, X, G⟩ := T.ns; He.glo_ok X G (T.c.fact 43 (f := .glo "_law_agrees") rfl)
theorem Txt.g_law (T : Txt K mg) : mg "law" = some (.ref (He.ga K "law")) := let ⟨_, X, G⟩ := T.ns; He.glo_ok X G (T.c.fact 44 (f := .glo "law") rfl)
theorem Txt.z_len (T : Txt K mg) : mg "len" = none := let ⟨_, X, G⟩ := T.ns; He.free_ok X G (T.c.fact 45 (f := .free "len") rfl)
theorem Txt.z_sorted (T : Txt K mg) : mg "sorted" = none := let ⟨_, X, G⟩ := T.ns; He.free_ok X G (T.c.fact 46 (f := .free "sorted") rfl)
theorem Txt.z_list (T : Txt K mg) : mg "list" = none := let ⟨_, X, G⟩ := T.ns; He.free_ok X G (T.c.fact 47 (f := .free "list") rfl)
theorem Txt.z_range (T : Txt K mg) : mg "range" = none := let ⟨_, X, G⟩ := T.ns; He.free_ok X G (T.c.fact 48 (f := .free "range") rfl)
theorem Txt.z_tuple (T : Txt K mg) : mg "tuple" = none := let ⟨_, X, G⟩ := T.ns; He.free_ok X G (T.c.fact 49 (f := .free "tuple") rfl)
theorem Txt.z_int (T : Txt K mg) : mg "int" = none := let ⟨_, X, G⟩ := T.ns; He.free_ok X G (T.c.fact 50 (f := .free "int") rfl)
theorem Txt.z_bool (T : Txt K mg) : mg "bool" = none := let ⟨_, X, G⟩ := T.ns; He.free_ok X G (T.c.fact 51 (f := .free "bool") rfl)
theorem Txt.z_abs (T : Txt K mg) : mg "abs" = none := let ⟨_, X, G⟩ := T.ns; He.free_ok X G (T.c.fact 52 (f := .free "abs") rfl)
theorem Txt.z_isinstance (T : Txt K mg) : mg "isinstance" = none := let ⟨_, X, G⟩ := T.ns; He.free_ok X G (T.c.fact 53 (f := .free "isinstance") rfl)
theorem Txt.z_max (T : Txt K mg) : mg "max" = none := let ⟨_, X, G⟩ := T.ns; He.free_ok X G (T.c.fact 54 (f := .free "max") rfl)
theorem Txt.z_min (T : Txt K mg) : mg "min" = none := let ⟨_, X, G⟩ := T.ns; He.free_ok X G (T.c.fact 55 (f := .free "min") rfl)
theorem Txt.z_iter (T : Txt K mg) : mg "iter" = none := let ⟨_, X, G⟩ := T.ns; He.free_ok X G (T.c.fact 56 (f := .free "iter") rfl)
theorem Txt.z_super (T : Txt K mg) : mg "super" = none := let ⟨_, X, G⟩ := T.ns; He.free_ok X G (T.c.fact 57 (f := .free "super") rfl)
theorem Txt.z_ValueError (T : Txt K mg) : mg "ValueError" = none := let ⟨_, X, G⟩ := T.ns; He.free_ok X G (T.c.fact 58 (f := .free "ValueError") rfl)
theorem Txt.cl (T : Txt K mg) : Cls K (He.ga K "Book") := He.cls_ok (T.c.fact 59 (f := .cls "Book") rfl)
theorem Txt.na_cells (T : Txt K mg) : NoAttr K (He.ga K "Book") "cells" := He.noat_ok (T.c.fact 60 (f := .noat "Book" "cells") rfl)
theorem Txt.na_base (T : Txt K mg) : NoAttr K (He.ga K "Book") "_base" := He.noat_ok (T.c.fact 61 (f := .noat "Book" "_base") rfl)
theorem Txt.na_numbers (T : Txt K mg) : NoAttr K (He.ga K "Book") "_numbers" := He.noat_ok (T.c.fact 62 (f := .noat "Book" "_numbers") rfl)
theorem Txt.na_values (T : Txt K mg) : NoAttr K (He.ga K "Book") "_values" := He.noat_ok (T.c.fact 63 (f := .noat "Book" "_values") rfl)
theorem Txt.na_sizes (T : Txt K mg) : NoAttr K (He.ga K "Book") "_sizes" := He.noat_ok (T.c.fact 64 (f := .noat "Book" "_sizes") rfl)
theorem Txt.na_needs (T : Txt K mg) : NoAttr K (He.ga K "Book") "_needs" := He.noat_ok (T.c.fact 65 (f := .noat "Book" "_needs") rfl)
theorem Txt.na_bars (T : Txt K mg) : NoAttr K (He.ga K "Book") "_bars" := He.noat_ok (T.c.fact 66 (f := .noat "Book" "_bars") rfl)
theorem Txt.na_writers (T : Txt K mg) : NoAttr K (He.ga K "Book") "_writers" := He.noat_ok (T.c.fact 67 (f := .noat "Book" "_writers") rfl)
theorem Txt.me_init (T : Txt K mg) : Meth K (He.ga K "Book") "__init__" (He.ma K (He.ga K "Book") "__init__") := He.meth_ok (T.c.fact 68 (f := .meth "Book" "__init__") rfl)
theorem Txt.me_make_patch (T : Txt K mg) : Meth K (He.ga K "Book") "make_patch" (He.ma K (He.ga K "Book") "make_patch") := He.meth_ok (T.c.fact 69 (f := .meth "Book" "make_patch") rfl)
theorem Txt.me_new_bars (T : Txt K mg) : Meth K (He.ga K "Book") "_new_bars" (He.ma K (He.ga K "Book") "_new_bars") := He.meth_ok (T.c.fact 70 (f := .meth "Book" "_new_bars") rfl)
theorem Txt.me_members (T : Txt K mg) : Meth K (He.ga K "Book") "_members" (He.ma K (He.ga K "Book") "_members") := He.meth_ok (T.c.fact 71 (f := .meth "Book" "_members") rfl)
theorem Txt.me_check_number (T : Txt K mg) : Meth K (He.ga K "Book") "check_number" (He.ma K (He.ga K "Book") "check_number") := He.meth_ok (T.c.fact 72 (f := .meth "Book" "check_number") rfl)
theorem Txt.me_needs_mask (T : Txt K mg) : Meth K (He.ga K "Book") "needs_mask" (He.ma K (He.ga K "Book") "needs_mask") := He.meth_ok (T.c.fact 73 (f := .meth "Book" "needs_mask") rfl)
theorem Txt.me_bars_mask (T : Txt K mg) : Meth K (He.ga K "Book") "bars_mask" (He.ma K (He.ga K "Book") "bars_mask") := He.meth_ok (T.c.fact 74 (f := .meth "Book" "bars_mask") rfl)
theorem Txt.me_required (T : Txt K mg) : Meth K (He.ga K "Book") "required" (He.ma K (He.ga K "Book") "required") := He.meth_ok (T.c.fact 75 (f := .meth "Book" "required") rfl)
theorem Txt.me_mask_of (T : Txt K mg) : Meth K (He.ga K "Book") "mask_of" (He.ma K (He.ga K "Book") "mask_of") := He.meth_ok (T.c.fact 76 (f := .meth "Book" "mask_of") rfl)
theorem Txt.me_holds (T : Txt K mg) : Meth K (He.ga K "Book") "holds" (He.ma K (He.ga K "Book") "holds") := He.meth_ok (T.c.fact 77 (f := .meth "Book" "holds") rfl)
theorem Txt.me_len (T : Txt K mg) : Meth K (He.ga K "Book") "__len__" (He.ma K (He.ga K "Book") "__len__") := He.meth_ok (T.c.fact 78 (f := .meth "Book" "__len__") rfl)
theorem Txt.me_iter (T : Txt K mg) : Meth K (He.ga K "Book") "__iter__" (He.ma K (He.ga K "Book") "__iter__") := He.meth_ok (T.c.fact 79 (f := .meth "Book" "__iter__") rfl)
theorem Txt.me_contains (T : Txt K mg) : Meth K (He.ga K "Book") "__contains__" (He.ma K (He.ga K "Book") "__contains__") := He.meth_ok (T.c.fact 80 (f := .meth "Book" "__contains__") rfl)
theorem Txt.mkB (T : Txt K mg) : Mk K (He.ga K "Book") (He.ma K (He.ga K "Book") "__init__") := He.mkr_ok (T.c.fact 81 (f := .mkr "Book") rfl)
theorem Txt.F_least_number (T : Txt K mg) : ∃ fd, FunD K d_least_number.name d_least_number.qual d_least_number.params d_least_number.body d_least_number.scope (d_least_number.dvs K) (d_least_number.kws K) (He.fAd K d_least_number.at_) fd := T.c.def_ 0 (d := d_least_number) rfl
theorem Txt.F_checked_writes (T : Txt K mg) : ∃ fd, FunD K d_checked_writes.name d_checked_writes.qual d_checked_writes.params d_checked_writes.body d_checked_writes.scope (d_checked_writes.dvs K) (d_checked_writes.kws K) (He.fAd K d_checked_writes.at_) fd := T.c.def_ 1 (d := d_checked_writes) rfl
theorem Txt.F_Binit (T : Txt K mg) : ∃ fd, FunD K d_Binit.name d_Binit.qual d_Binit.params d_Binit.body d_Binit.scope (d_Binit.dvs K) (d_Binit.kws K) (He.fAd K d_Binit.at_) fd := T.c.def_ 2 (d := d_Binit) rfl
theorem Txt.F_Bmake_patch (T : Txt K mg) : ∃ fd, FunD K d_Bmake_patch.name d_Bmake_patch.qual d_Bmake_patch.params d_Bmake_patch.body d_Bmake_patch.scope (d_Bmake_patch.dvs K) (d_Bmake_patch.kws K) (He.fAd K d_Bmake_patch.at_) fd := T.c.def_ 3 (d := d_Bmake_patch) rfl
theorem Txt.F_Bnew_bars (T : Txt K mg) : ∃ fd, FunD K d_Bnew_bars.name d_Bnew_bars.qual d_Bnew_bars.params d_Bnew_bars.body d_Bnew_bars.scope (d_Bnew_bars.dvs K) (d_Bnew_bars.kws K) (He.fAd K d_Bnew_bars.at_) fd := T.c.def_ 4 (d := d_Bnew_bars) rfl
theorem Txt.F_Bmembers (T : Txt K mg) : ∃ fd, FunD K d_Bmembers.name d_Bmembers.qual d_Bmembers.params d_Bmembers.body d_Bmembers.scope (d_Bmembers.dvs K) (d_Bmembers.kws K) (He.fAd K d_Bmembers.at_) fd := T.c.def_ 5 (d := d_Bmembers) rfl
theorem Txt.F_Bcheck_number (T : Txt K mg) : ∃ fd, FunD K d_Bcheck_number.name d_Bcheck_number.qual d_Bcheck_number.params d_Bcheck_number.body d_Bcheck_number.scope (d_Bcheck_number.dvs K) (d_Bcheck_number.kws K) (He.fAd K d_Bcheck_number.at_) fd := T.c.def_ 6 (d := d_Bcheck_number) rfl
theorem Txt.F_Bneeds_mask (T : Txt K mg) : ∃ fd, FunD K d_Bneeds_mask.name d_Bneeds_mask.qual d_Bneeds_mask.params d_Bneeds_mask.body d_Bneeds_mask.scope (d_Bneeds_mask.dvs K) (d_Bneeds_mask.kws K) (He.fAd K d_Bneeds_mask.at_) fd := T.c.def_ 7 (d := d_Bneeds_mask) rfl
theorem Txt.F_Bbars_mask (T : Txt K mg) : ∃ fd, FunD K d_Bbars_mask.name d_Bbars_mask.qual d_Bbars_mask.params d_Bbars_mask.body d_Bbars_mask.scope (d_Bbars_mask.dvs K) (d_Bbars_mask.kws K) (He.fAd K d_Bbars_mask.at_) fd := T.c.def_ 8 (d := d_Bbars_mask) rfl
theorem Txt.F_Brequired (T : Txt K mg) : ∃ fd, FunD K d_Brequired.name d_Brequired.qual d_Brequired.params d_Brequired.body d_Brequired.scope (d_Brequired.dvs K) (d_Brequired.kws K) (He.fAd K d_Brequired.at_) fd := T.c.def_ 9 (d := d_Brequired) rfl
theorem Txt.F_Bmask_of (T : Txt K mg) : ∃ fd, FunD K d_Bmask_of.name d_Bmask_of.qual d_Bmask_of.params d_Bmask_of.body d_Bmask_of.scope (d_Bmask_of.dvs K) (d_Bmask_of.kws K) (He.fAd K d_Bmask_of.at_) fd := T.c.def_ 10 (d := d_Bmask_of) rfl
theorem Txt.F_Bholds (T : Txt K mg) : ∃ fd, FunD K d_Bholds.name d_Bholds.qual d_Bholds.params d_Bholds.body d_Bholds.scope (d_Bholds.dvs K) (d_Bholds.kws K) (He.fAd K d_Bholds.at_) fd := T.c.def_ 11 (d := d_Bholds) rfl
theorem Txt.F_Blen (T : Txt K mg) : ∃ fd, FunD K d_Blen.name d_Blen.qual d_Blen.params d_Blen.body d_Blen.scope (d_Blen.dvs K) (d_Blen.kws K) (He.fAd K d_Blen.at_) fd := T.c.def_ 12 (d := d_Blen) rfl
theorem Txt.F_Biter (T : Txt K mg) : ∃ fd, FunD K d_Biter.name d_Biter.qual d_Biter.params d_Biter.body d_Biter.scope (d_Biter.dvs K) (d_Biter.kws K) (He.fAd K d_Biter.at_) fd := T.c.def_ 13 (d := d_Biter) rfl
theorem Txt.F_Bcontains (T : Txt K mg) : ∃ fd, FunD K d_Bcontains.name d_Bcontains.qual d_Bcontains.params d_Bcontains.body d_Bcontains.scope (d_Bcontains.dvs K) (d_Bcontains.kws K) (He.fAd K d_Bcontains.at_) fd := T.c.def_ 14 (d := d_Bcontains) rfl
theorem Txt.F_independent_pair (T : Txt K mg) : ∃ fd, FunD K d_independent_pair.name d_independent_pair.qual d_independent_pair.params d_independent_pair.body d_independent_pair.scope (d_independent_pair.dvs K) (d_independent_pair.kws K) (He.fAd K d_independent_pair.at_) fd := T.c.def_ 15 (d := d_independent_pair) rfl
theorem Txt.F_need_tree (T : Txt K mg) : ∃ fd, FunD K d_need_tree.name d_need_tree.qual d_need_tree.params d_need_tree.body d_need_tree.scope (d_need_tree.dvs K) (d_need_tree.kws K) (He.fAd K d_need_tree.at_) fd := T.c.def_ 16 (d := d_need_tree) rfl
theorem Txt.F_tree_versions (T : Txt K mg) : ∃ fd, FunD K d_tree_versions.name d_tree_versions.qual d_tree_versions.params d_tree_versions.body d_tree_versions.scope (d_tree_versions.dvs K) (d_tree_versions.kws K) (He.fAd K d_tree_versions.at_) fd := T.c.def_ 17 (d := d_tree_versions) rfl
theorem Txt.F_tree_parent (T : Txt K mg) : ∃ fd, FunD K d_tree_parent.name d_tree_parent.qual d_tree_parent.params d_tree_parent.body d_tree_parent.scope (d_tree_parent.dvs K) (d_tree_parent.kws K) (He.fAd K d_tree_parent.at_) fd := T.c.def_ 18 (d := d_tree_parent) rfl
theorem Txt.F_grown (T : Txt K mg) : ∃ fd, FunD K d_grown.name d_grown.qual d_grown.params d_grown.body d_grown.scope (d_grown.dvs K) (d_grown.kws K) (He.fAd K d_grown.at_) fd := T.c.def_ 19 (d := d_grown) rfl
theorem Txt.F_all_versions (T : Txt K mg) : ∃ fd, FunD K d_all_versions.name d_all_versions.qual d_all_versions.params d_all_versions.body d_all_versions.scope (d_all_versions.dvs K) (d_all_versions.kws K) (He.fAd K d_all_versions.at_) fd := T.c.def_ 20 (d := d_all_versions) rfl
theorem Txt.F_l_source (T : Txt K mg) : ∃ fd, FunD K d_l_source.name d_l_source.qual d_l_source.params d_l_source.body d_l_source.scope (d_l_source.dvs K) (d_l_source.kws K) (He.fAd K d_l_source.at_) fd := T.c.def_ 21 (d := d_l_source) rfl
theorem Txt.F_l_draw (T : Txt K mg) : ∃ fd, FunD K d_l_draw.name d_l_draw.qual d_l_draw.params d_l_draw.body d_l_draw.scope (d_l_draw.dvs K) (d_l_draw.kws K) (He.fAd K d_l_draw.at_) fd := T.c.def_ 22 (d := d_l_draw) rfl
theorem Txt.F_l_needs (T : Txt K mg) : ∃ fd, FunD K d_l_needs.name d_l_needs.qual d_l_needs.params d_l_needs.body d_l_needs.scope (d_l_needs.dvs K) (d_l_needs.kws K) (He.fAd K d_l_needs.at_) fd := T.c.def_ 23 (d := d_l_needs) rfl
theorem Txt.F_l_bars (T : Txt K mg) : ∃ fd, FunD K d_l_bars.name d_l_bars.qual d_l_bars.params d_l_bars.body d_l_bars.scope (d_l_bars.dvs K) (d_l_bars.kws K) (He.fAd K d_l_bars.at_) fd := T.c.def_ 24 (d := d_l_bars) rfl
theorem Txt.F_l_writes (T : Txt K mg) : ∃ fd, FunD K d_l_writes.name d_l_writes.qual d_l_writes.params d_l_writes.body d_l_writes.scope (d_l_writes.dvs K) (d_l_writes.kws K) (He.fAd K d_l_writes.at_) fd := T.c.def_ 25 (d := d_l_writes) rfl
theorem Txt.F_l_grow (T : Txt K mg) : ∃ fd, FunD K d_l_grow.name d_l_grow.qual d_l_grow.params d_l_grow.body d_l_grow.scope (d_l_grow.dvs K) (d_l_grow.kws K) (He.fAd K d_l_grow.at_) fd := T.c.def_ 26 (d := d_l_grow) rfl
theorem Txt.F_l_model (T : Txt K mg) : ∃ fd, FunD K d_l_model.name d_l_model.qual d_l_model.params d_l_model.body d_l_model.scope (d_l_model.dvs K) (d_l_model.kws K) (He.fAd K d_l_model.at_) fd := T.c.def_ 27 (d := d_l_model) rfl
theorem Txt.F_l_book (T : Txt K mg) : ∃ fd, FunD K d_l_book.name d_l_book.qual d_l_book.params d_l_book.body d_l_book.scope (d_l_book.dvs K) (d_l_book.kws K) (He.fAd K d_l_book.at_) fd := T.c.def_ 28 (d := d_l_book) rfl
theorem Txt.F_l_tree (T : Txt K mg) : ∃ fd, FunD K d_l_tree.name d_l_tree.qual d_l_tree.params d_l_tree.body d_l_tree.scope (d_l_tree.dvs K) (d_l_tree.kws K) (He.fAd K d_l_tree.at_) fd := T.c.def_ 29 (d := d_l_tree) rfl
theorem Txt.F_l_fits (T : Txt K mg) : ∃ fd, FunD K d_l_fits.name d_l_fits.qual d_l_fits.params d_l_fits.body d_l_fits.scope (d_l_fits.dvs K) (d_l_fits.kws K) (He.fAd K d_l_fits.at_) fd := T.c.def_ 30 (d := d_l_fits) rfl
theorem Txt.F_l_all (T : Txt K mg) : ∃ fd, FunD K d_l_all.name d_l_all.qual d_l_all.params d_l_all.body d_l_all.scope (d_l_all.dvs K) (d_l_all.kws K) (He.fAd K d_l_all.at_) fd := T.c.def_ 31 (d := d_l_all) rfl
theorem Txt.F_l_put (T : Txt K mg) : ∃ fd, FunD K d_l_put.name d_l_put.qual d_l_put.params d_l_put.body d_l_put.scope (d_l_put.dvs K) (d_l_put.kws K) (He.fAd K d_l_put.at_) fd := T.c.def_ 32 (d := d_l_put) rfl
theorem Txt.F_l_rich (T : Txt K mg) : ∃ fd, FunD K d_l_rich.name d_l_rich.qual d_l_rich.params d_l_rich.body d_l_rich.scope (d_l_rich.dvs K) (d_l_rich.kws K) (He.fAd K d_l_rich.at_) fd := T.c.def_ 33 (d := d_l_rich) rfl
theorem Txt.F_l_world (T : Txt K mg) : ∃ fd, FunD K d_l_world.name d_l_world.qual d_l_world.params d_l_world.body d_l_world.scope (d_l_world.dvs K) (d_l_world.kws K) (He.fAd K d_l_world.at_) fd := T.c.def_ 34 (d := d_l_world) rfl
theorem Txt.F_l_integer (T : Txt K mg) : ∃ fd, FunD K d_l_integer.name d_l_integer.qual d_l_integer.params d_l_integer.body d_l_integer.scope (d_l_integer.dvs K) (d_l_integer.kws K) (He.fAd K d_l_integer.at_) fd := T.c.def_ 35 (d := d_l_integer) rfl
theorem Txt.F_l_tuple (T : Txt K mg) : ∃ fd, FunD K d_l_tuple.name d_l_tuple.qual d_l_tuple.params d_l_tuple.body d_l_tuple.scope (d_l_tuple.dvs K) (d_l_tuple.kws K) (He.fAd K d_l_tuple.at_) fd := T.c.def_ 36 (d := d_l_tuple) rfl
theorem Txt.F_l_is_version (T : Txt K mg) : ∃ fd, FunD K d_l_is_version.name d_l_is_version.qual d_l_is_version.params d_l_is_version.body d_l_is_version.scope (d_l_is_version.dvs K) (d_l_is_version.kws K) (He.fAd K d_l_is_version.at_) fd := T.c.def_ 37 (d := d_l_is_version) rfl
theorem Txt.F_l_pair (T : Txt K mg) : ∃ fd, FunD K d_l_pair.name d_l_pair.qual d_l_pair.params d_l_pair.body d_l_pair.scope (d_l_pair.dvs K) (d_l_pair.kws K) (He.fAd K d_l_pair.at_) fd := T.c.def_ 38 (d := d_l_pair) rfl
theorem Txt.F_l_told (T : Txt K mg) : ∃ fd, FunD K d_l_told.name d_l_told.qual d_l_told.params d_l_told.body d_l_told.scope (d_l_told.dvs K) (d_l_told.kws K) (He.fAd K d_l_told.at_) fd := T.c.def_ 39 (d := d_l_told) rfl
theorem Txt.F_l_list_of (T : Txt K mg) : ∃ fd, FunD K d_l_list_of.name d_l_list_of.qual d_l_list_of.params d_l_list_of.body d_l_list_of.scope (d_l_list_of.dvs K) (d_l_list_of.kws K) (He.fAd K d_l_list_of.at_) fd := T.c.def_ 40 (d := d_l_list_of) rfl
theorem Txt.F_l_chains (T : Txt K mg) : ∃ fd, FunD K d_l_chains.name d_l_chains.qual d_l_chains.params d_l_chains.body d_l_chains.scope (d_l_chains.dvs K) (d_l_chains.kws K) (He.fAd K d_l_chains.at_) fd := T.c.def_ 41 (d := d_l_chains) rfl
theorem Txt.F_l_is_tree (T : Txt K mg) : ∃ fd, FunD K d_l_is_tree.name d_l_is_tree.qual d_l_is_tree.params d_l_is_tree.body d_l_is_tree.scope (d_l_is_tree.dvs K) (d_l_is_tree.kws K) (He.fAd K d_l_is_tree.at_) fd := T.c.def_ 42 (d := d_l_is_tree) rfl
theorem Txt.F_l_is_no_tree (T : Txt K mg) : ∃ fd, FunD K d_l_is_no_tree.name d_l_is_no_tree.qual d_l_is_no_tree.params d_l_is_no_tree.body d_l_is_no_tree.scope (d_l_is_no_tree.dvs K) (d_l_is_no_tree.kws K) (He.fAd K d_l_is_no_tree.at_) fd := T.c.def_ 43 (d := d_l_is_no_tree) rfl
theorem Txt.F_l_agrees (T : Txt K mg) : ∃ fd, FunD K d_l_agrees.name d_l_agrees.qual d_l_agrees.params d_l_agrees.body d_l_agrees.scope (d_l_agrees.dvs K) (d_l_agrees.kws K) (He.fAd K d_l_agrees.at_) fd := T.c.def_ 44 (d := d_l_agrees) rfl
theorem Txt.F_law (T : Txt K mg) : ∃ fd, FunD K d_law.name d_law.qual d_law.params d_law.body d_law.scope (d_law.dvs K) (d_law.kws K) (He.fAd K d_law.at_) fd := T.c.def_ 45 (d := d_law) rfl
end
end K27
set_option Elab.async false
set_option linter.all false
set_option maxRecDepth 100000
set_option maxHeartbeats 0
namespace K27
open PySem PySem.Spec PyProof.Rows L2
abbrev R : PySem.W.OpenRow := PySem.W.OpenLaw.row PySem.Challenge.rw_livecopy_k27_whole_trees
abbrev qv : Program := PySem.W.view R.prog [50]
def ob (s : PySem.W.SharedT) : AlM := obsMG (HandSHeadRun.getT s)
theorem ob_eq (s : PySem.W.SharedT) : ob s = hk.obs s.abs := obsMG_eq (HandSHeadRun.getT_eq s)
def names : List PySem.Str := (["_wall", "LivecopyError", "BadCell", "EmptyPatch", "DuplicateCell", "UnknownPatch", "BadSize", "Conflict", "NotAVersion", "NotInside", "TooMany", "NotATree", "least_number", "checked_writes", "Book", "independent_pair", "need_tree", "tree_versions", "tree_parent", "grown"] : List PySem.Str) ++ (["all_versions", "_law_source", "_law_draw", "_law_needs", "_law_bars", "_law_writes", "_law_grow", "_law_model", "_law_book", "_law_tree", "_law_fits", "_law_all", "_law_put", "_law_rich", "_law_world", "_law_integer", "_law_tuple", "_law_is_version", "_law_pair", "_law_told"] : List PySem.Str) ++ (["_law_list_of", "_law_chains", "_law_is_tree", "_law_is_no_tree", "_law_agrees"] : List PySem.Str)
theorem run (w : World) : HandSHeadRun.RunEq R qv hk ob 6000 names w := by
  intro os
  kernel_rfl
end K27
set_option Elab.async false
set_option linter.all false
set_option maxRecDepth 100000
set_option maxHeartbeats 4000000
/-! K27Rules: rules of my own over the hand layer. -/
namespace K27
open PySem PySem.Spec PyProof.Rows L2

/-! ### a def with its promise, in one piece -/
def OkC (P : Program) (w : World) (K : PySem.W.Frag) (mg : Str → Option Value) (base : Heap) (CX : CXT) (k : Nat) (p : Str × Option Str) (ps : List Str) (sp : Sp) : Prop :=
  ∃ fd, FnOk P w K mg base CX k (He.fAd K p) fd ps sp ∧ Binds K fd ps [] ∧ PySem.W.keepIn K (.ref (He.fAd K p)) = true
theorem OkC.mono {P : Program} {w : World} {K : PySem.W.Frag} {mg : Str → Option Value} {base : Heap} {CX : CXT} {j k : Nat} {p : Str × Option Str} {ps : List Str} {sp : Sp} (F : OkC P w K mg base CX j p ps sp) (h : j ≤ k) : OkC P w K mg base CX k p ps sp := by
  obtain ⟨fd, F, b, kp⟩ := F
  exact ⟨fd, F.mono h, b, kp⟩
theorem OkC.imp {P : Program} {w : World} {K : PySem.W.Frag} {mg : Str → Option Value} {base : Heap} {CX : CXT} {k : Nat} {p : Str × Option Str} {ps : List Str} {sp sp' : Sp} (F : OkC P w K mg base CX k p ps sp) (h : ∀ vs H Q E, sp' vs H Q E → sp vs H Q E) : OkC P w K mg base CX k p ps sp' := by
  obtain ⟨fd, F, b, kp⟩ := F
  exact ⟨fd, F.imp h, b, kp⟩
section
variable {P : Program} {w : World} {K : PySem.W.Frag} {mg : Str → Option Value} {base : Heap}
/-- a def of the text, with its body's walk; CX as it is -/
theorem okX {CX : CXT} {x qual : Str} {params : Arguments} {body : List Stmt} {scope : Scope} {N ps : List Str} {k : Nat} {sp : Sp} {p : Str × Option Str}
    (hF : ∃ fd, FunD K x qual params body scope [] [] (He.fAd K p) fd) (S : FnScope N ps scope)
    (hb : ∀ (kV doc pm : Value) (an : Option Addr) (cdv ct : Value) (us : List Value), us.length = ps.length → bindArgs (PySem.W.fnOf x qual params body scope .none kV doc pm an cdv ct) ⟨us, []⟩ = pure (ps.zip us))
    (len : ∀ vs H Q E, sp vs H Q E → vs.length = ps.length)
    (hbody : ∀ (f : Addr) (cdv : Value) (A : Around) (outer : List Env) (s : Shared) (H : Hp) (vs : List V) (Q : VK) (E : XK), Room k (A.deeper (envOfC qual scope s.heap.objs.size f cdv)) → sp vs H Q E →
      ∃ t, PSs (cxOf CX P w K mg base N qual scope f cdv A outer s H E) body t ∧ t { nx := fun _ H' => Q .non H', rt := Q } (start N vs) H) : OkC P w K mg base CX (k + 1) p ps sp := by
  obtain ⟨fd, F⟩ := hF
  exact ⟨fd, F.ok S len (hbody _), F.bindsN hb, F.kp⟩
/-- .. that lets nothing out -/
theorem ok0 {x qual : Str} {params : Arguments} {body : List Stmt} {scope : Scope} {N ps : List Str} {k : Nat} {sp : Sp} {p : Str × Option Str}
    (hF : ∃ fd, FunD K x qual params body scope [] [] (He.fAd K p) fd) (S : FnScope N ps scope)
    (hb : ∀ (kV doc pm : Value) (an : Option Addr) (cdv ct : Value) (us : List Value), us.length = ps.length → bindArgs (PySem.W.fnOf x qual params body scope .none kV doc pm an cdv ct) ⟨us, []⟩ = pure (ps.zip us))
    (len : ∀ vs H Q E, sp vs H Q E → vs.length = ps.length)
    (hbody : ∀ (f : Addr) (cdv : Value) (A : Around) (outer : List Env) (s : Shared) (H : Hp) (vs : List V) (Q : VK) (E : XK), Room k (A.deeper (envOfC qual scope s.heap.objs.size f cdv)) → sp vs H Q E →
      ∃ t, PSs (cxOf CX0 P w K mg base N qual scope f cdv A outer s H E).nox body t ∧ t { nx := fun _ H' => Q .non H', rt := Q } (start N vs) H) : OkC P w K mg base CX0 (k + 1) p ps sp :=
  okX hF S hb len fun f cdv A outer s H vs Q E hr h => by
    obtain ⟨t, h1, h2⟩ := hbody f cdv A outer s H vs Q E hr h
    exact ⟨t, h1.nox, h2⟩
end
section
variable {X : Cx} {CX : CXT} {k : Nat} {ps : List Str} {sp : Sp} {E : XK} {x m : Str} {p pos apos : Pos} {e o : Expr} {es : List Expr} {ta : TE} {t : TA}
/-- f(e, ..), f a def of the text -/
theorem pe_c (F : OkC X.prog X.w X.K X.mg X.base CX k (x, none) ps sp) (hr : Room k X.A) (hm : X.mg x = some (.ref (He.ga X.K x))) (hx : Passes CX X E) (ha : PA X (e :: es) t) (hg : Gl X x := by rfl)
    (hdb : (x == ("__debug__" : Str)) = false := by decide) (he : starEach (e :: es) X.env = (false, eval e X.env) :: starEach es X.env := by rfl) (hpl : (backTo pos (starEach es X.env)).any (·.1) = false := by rfl) :
    PE X (.Call (.Name x p) (e :: es) [] pos) (tCall sp [] E t) := by
  obtain ⟨fd, F, hb, hk⟩ := F
  exact pe_call F hr hg hm hk hb .nil hx ha hdb he hpl
/-- o.m(e, ..), m a method of the book -/
theorem pe_m (T : Txt X.K X.mg) (hme : Meth X.K (He.ga X.K "Book") m (He.ma X.K (He.ga X.K "Book") m)) (F : OkC X.prog X.w X.K X.mg X.base CX k ("Book", some m) ps sp) (hr : Room k X.A) (hx : Passes CX X E) (ho : PE X o ta) (ha : PA X (e :: es) t)
    {pl : Sem Bool} (hst : starEach (e :: es) X.env = (false, eval e X.env) :: starEach es X.env := by rfl) (hpl : (backTo pos (starEach es X.env)).any (·.1) = false := by rfl)
    (ht : eval (.Call (.Attribute o m apos) (e :: es) [] pos) X.env = (do
      let ov ← eval o X.env
      standAt apos.atName
      let (f, first) ← holding [ov] (getMethod ov m pl)
      callWith pos f first (backTo pos (starEach (e :: es) X.env)) (backToKw pos (keywordEach [] X.env))) := by rfl) :
    PE X (.Call (.Attribute o m apos) (e :: es) [] pos) (tMeth (He.ga X.K "Book") m sp [] E ta t) := by
  obtain ⟨fd, F, hb, hk⟩ := F
  exact pe_meth ho T.cl hme F hr hb .nil hx ha hst hpl ht
/-- C(e), the book made -/
theorem pe_mk (T : Txt X.K X.mg) (F : OkC X.prog X.w X.K X.mg X.base CX k ("Book", some "__init__") ps sp) (hr : Room (k + 1) X.A) (hx : Passes CX X E) (ha : PA X (e :: es) t) (hg : Gl X "Book" := by rfl)
    (he : starEach (e :: es) X.env = (false, eval e X.env) :: starEach es X.env := by rfl) (hpl : (backTo pos (starEach es X.env)).any (·.1) = false := by rfl) :
    PE X (.Call (.Name "Book" p) (e :: es) [] pos) (tMake (He.ga X.K "Book") sp [] E t) := by
  obtain ⟨fd, F, hb, hk⟩ := F
  exact pe_make T.mkB F hr hg T.g_Book hb .nil hx ha (by decide) he hpl
end

/-! ### o.m(e, .., k = v, ..) -/
def tMethN (C : Addr) (m : Str) (n j : Nat) (sp : Sp) (gV : List V → List V → List V) (E : XK) (ta : TE) (t tk : TA) : TE := fun σ H Q => ta σ H fun x H1 => ∃ a dx fs, x = .ref a ∧ H1 a = some (.ins C dx fs) ∧ fs.lookup m = none ∧
  t σ H1 fun vs H2 => tk σ H2 fun zs H3 => vs.length + 1 = n ∧ zs.length = j ∧ sp (gV (x :: vs) zs) H3 Q E
section
variable {X : Cx} {CX : CXT} {k n : Nat} {f C : Addr} {fd : FuncData} {ps ks : List Str} {sp : Sp} {E : XK} {m : Str} {pos apos : Pos} {e o : Expr} {es : List Expr} {kws : List Keyword} {ta : TE} {t tk : TA} {g : List Value → List Value → List Value} {gV : List V → List V → List V}
theorem pe_methN {pl : Sem Bool} (he : PE X o ta) (c : Cls X.K C) (hm : Meth X.K C m f) (F : FnOk X.prog X.w X.K X.mg X.base CX k f fd ps sp) (hr : Room k X.A) (hb : KBn X.K fd ps n ks g gV) (hx : Passes CX X E) (ha : PA X (e :: es) t) (hkw : PK X kws tk)
    (hall : (backToKw pos (keywordEach kws X.env)).all (·.1.isSome) = true := by rfl) (hks : (backToKw pos (keywordEach kws X.env)).filterMap (·.1) = ks := by rfl)
    (hst : starEach (e :: es) X.env = (false, eval e X.env) :: starEach es X.env := by rfl)
    (hpl : ((backTo pos (starEach (e :: es) X.env)).any (·.1) || (backToKw pos (keywordEach kws X.env)).any (·.1.isNone)) = false := by rfl)
    (ht : eval (.Call (.Attribute o m apos) (e :: es) kws pos) X.env = (do
      let ov ← eval o X.env
      standAt apos.atName
      let (f, first) ← holding [ov] (getMethod ov m pl)
      callWith pos f first (backTo pos (starEach (e :: es) X.env)) (backToKw pos (keywordEach kws X.env))) := by rfl) :
    PE X (.Call (.Attribute o m apos) (e :: es) kws pos) (tMethN C m n ks.length sp gV E ta t tk) := by
  refine ⟨fun pins s σ H Q I h => ?_⟩
  refine PySem.W.methodCall_KW (pl := pl) (thn (he.run pins s σ H _ I h) fun u s1 ⟨x, H1, I1, rx, a, dx, fs, ex, ea, l, q⟩ => ?_) ht
  subst ex
  obtain rfl : u = Value.ref a := rx
  refine getmeth_ok I1 ea c hm l ?_
  refine PySem.W.callWith_KW (first := [.ref a]) (h₀ := X.base) I.ok.mod.kin hm.kp hall (thn (ha.run pos pins s1 σ H1 _ I1 q) fun us s2 ⟨vs, H2, I2, r, q2⟩ => ?_) hpl hst
  refine thn (hkw.run pos pins s2 σ H2 _ I2 q2) fun ws s3 ⟨zs, H3, I3, rz, l1, l2, q3⟩ => ⟨I3.kIn, ?_⟩
  rw [hks]
  exact run_fnN (us := .ref a :: us) (vs := .ref a :: vs) F hr hb hx I3 (.cons rfl r) rz l1 l2 q3
end

/-! ### a def whose promise speaks of the heap's size at its entry -/
def OkS (P : Program) (w : World) (K : PySem.W.Frag) (mg : Str → Option Value) (base : Heap) (CX : CXT) (k : Nat) (p : Str × Option Str) (ps : List Str) (sp : Nat → Sp) : Prop :=
  ∃ fd, (∀ n vs H Q E, sp n vs H Q E → vs.length = ps.length) ∧ (∀ (A : Around) (outer : List Env) (s : Shared) (H : Hp) (args : Args) (us : List Value) (vs : List V) (Q : VK) (E : XK), Room k A → Env0 P w K mg base A outer s H → BindsTo s fd args (ps.zip us) → Vals vs us →
    sp s.heap.objs.size vs H Q E → codeAny (model P w) A (.call (.ref (He.fAd K p)) args) (CR CX outer P w H s Q E) s) ∧ Binds K fd ps []
section
variable {P : Program} {w : World} {K : PySem.W.Frag} {mg : Str → Option Value} {base : Heap}
theorem okS {x qual : Str} {params : Arguments} {body : List Stmt} {scope : Scope} {N ps : List Str} {k : Nat} {sp : Nat → Sp} {p : Str × Option Str}
    (hF : ∃ fd, FunD K x qual params body scope [] [] (He.fAd K p) fd) (S : FnScope N ps scope)
    (hb : ∀ (kV doc pm : Value) (an : Option Addr) (cdv ct : Value) (us : List Value), us.length = ps.length → bindArgs (PySem.W.fnOf x qual params body scope .none kV doc pm an cdv ct) ⟨us, []⟩ = pure (ps.zip us))
    (len : ∀ n vs H Q E, sp n vs H Q E → vs.length = ps.length)
    (hbody : ∀ (f : Addr) (cdv : Value) (A : Around) (outer : List Env) (s : Shared) (H : Hp) (vs : List V) (Q : VK) (E : XK), Room k (A.deeper (envOfC qual scope s.heap.objs.size f cdv)) → sp s.heap.objs.size vs H Q E →
      ∃ t, PSs (cxOf CX0 P w K mg base N qual scope f cdv A outer s H E).nox body t ∧ t { nx := fun _ H' => Q .non H', rt := Q } (start N vs) H) : OkS P w K mg base CX0 (k + 1) p ps sp := by
  obtain ⟨fd, F⟩ := hF
  refine ⟨fd, len, ?_, F.bindsN hb⟩
  obtain ⟨oc, od, dV, kV, doc, pm, an, cdv, ct, osl, rfl, lk, hcd, hD, hK⟩ := F.ex
  intro A outer s H args us vs Q E hr e0 hb r hsp
  have hl := len _ _ _ _ _ hsp
  have KX : K.In s.heap := e0.mod.kin.keeps fun b o e => (e0.bs b o e).1
  have lim : s.heap.NoLimit := e0.mod.nolimit.keeps fun b o e => (e0.bs b o e).1
  have hkind : ∀ y ∈ ps.zip us, scope.names.lookup y.1 = some .local ∨ (scope.names.lookup y.1 = some .cell ∧ ((cellsFrom (s.heap.objs.size + 1) scope.names []).lookup y.1).isSome = true) := fun ⟨n, v⟩ hy => by
    rcases S.par n (List.of_mem_zip hy).1 with q | q
    · exact .inl q
    · exact .inr ⟨q, PySem.W.cellsFrom_some _ _ _ (.inl q)⟩
  refine codeAny_call_function hr.depth (KX _ _ lk) rfl S.co S.gen rfl (PySem.W.codeRec_of KX hcd) (hb _ _ _ _ ?_)
  refine wpAny_newFunctionEnv_cells S.kind hkind fun env he s1 x => ?_
  subst he
  refine ⟨lim.keeps x.toInCall.keep, codeAny_func ?_⟩
  obtain ⟨t, ht, hq⟩ := hbody _ cdv A outer s H vs Q E (hr.deeper _) hsp
  have I : Inv (cxOf CX0 P w K mg base N qual scope (He.fAd K p) cdv A outer s H E) [] (start N vs) H s1 := inv_start S hr.hd e0 hl r x
  refine wpAny_mono (ht.nox.run [] s1 (start N vs) H _ I hq) (fun fl s' hs => ?_) fun e s' hs => hs
  have fin : ∀ {σ' : L2.St} {H' : Hp} {v : V} {u : Value}, Inv (cxOf CX0 P w K mg base N qual scope (He.fAd K p) cdv A outer s H E) [] σ' H' s' → RelV v u → Q v H' → CE outer P w H s Q u s' :=
    fun {σ' H' v u} J rv q => ⟨v, H', J.os, J.bare, J.base, J.hok, rv, q⟩
  cases fl with
  | ret u =>
    obtain ⟨v, σ', H', J, rv, q⟩ := hs
    exact fin J rv q
  | next =>
    obtain ⟨σ', H', J, q⟩ := hs
    exact fin (v := V.non) (u := Value.none) J rfl q
  | brk =>
    obtain ⟨_, _, _, q⟩ := hs
    exact False.elim q
  | cont =>
    obtain ⟨_, _, _, q⟩ := hs
    exact False.elim q
end
/-- the book's list of numbers is the one at l -/
def BkN (K : PySem.W.Frag) (H : Hp) (a l : Addr) (xs : List V) : Prop := ∃ dx fs, H a = some (.ins (He.ga K "Book") dx fs) ∧ fs.lookup ("_numbers" : Str) = some (.ref l) ∧ H l = some (.lst xs)
/-- what __iter__, __len__, __contains__ promise -/
def spIter (K : PySem.W.Frag) (n : Nat) : Sp := fun vs H Q _ => ∃ a l xs, vs = [.ref a] ∧ BkN K H a l xs ∧ ∀ it, H it = none → n ≤ it → Q (.ref it) (upd H it (L2.ItO l it 0))
def spLen (K : PySem.W.Frag) : Sp := fun vs H Q _ => ∃ a l xs, vs = [.ref a] ∧ BkN K H a l xs ∧ Q (.int xs.length) H
section
variable {X : Cx} {tg e : Expr} {te : TE} {k : Nat} {psI : List Str}
def iBook (K : PySem.W.Frag) (te : TE) : TI := fun σ H R => te σ H fun x H1 => ∃ a l xs, x = .ref a ∧ BkN K H1 a l xs ∧ R (Itl K l) H1
theorem Env0.in1' {P : Program} {w : World} {K : PySem.W.Frag} {mg : Str → Option Value} {base : Heap} {A : Around} {outer : List Env} {s : Shared} {H : Hp} (e : Env0 P w K mg base A outer s H) : Env0 P w K mg base A.in1 outer s H := e.in1
/-- for x in the book -/
theorem pi_book (T : Txt X.K X.mg) (F : OkS X.prog X.w X.K X.mg X.base CX0 k ("Book", some "__iter__") psI (spIter X.K)) (hr : Room k X.A) (he : PE X e te) : PI X tg e (iBook X.K te) := by
  refine ⟨fun pins s σ H R I h => ?_⟩
  refine thn (he.run pins s σ H _ I h) fun v s1 ⟨x, H1, I1, r1, a, l, xs, ex, hb, q⟩ => ?_
  subst ex
  cases r1
  obtain ⟨dx, fs, ha, hl, hlst⟩ := hb
  obtain ⟨mA, J, _⟩ := ins_get I1.hok ha
  obtain ⟨od, J, _⟩ := J.look
  obtain ⟨m, hF⟩ := I1.fr
  have me := T.me_iter
  refine PySem.W.owit_iter hF I1.ok.mod.kin J me.1 me.2 ?_
  obtain ⟨fd, hlen, run, bd⟩ := F
  have hsp : spIter X.K s1.heap.objs.size [.ref a] H1 (fun v H2 => ∃ it, v = .ref it ∧ H1 it = none ∧ s1.heap.objs.size ≤ it ∧ H2 = upd H1 it (L2.ItO l it 0)) (fun _ _ _ => False) := ⟨a, l, xs, rfl, ⟨dx, fs, ha, hl, hlst⟩, fun it h1 h2 => ⟨it, rfl, h1, h2, rfl⟩⟩
  have hl1 := hlen _ _ _ _ _ hsp
  have r2 : Vals [V.ref a] [Value.ref a] := .cons rfl .nil
  refine wpAny_call (codeAny_mono (run X.A X.stack s1 H1 ⟨[.ref a], []⟩ [.ref a] [.ref a] _ _ hr I1.env0 (by
    have := bd s1 [.ref a] I1.kIn (by simpa using hl1)
    simpa using this) r2 hsp) fun r s2 hq => ?_)
  cases r with
  | error e => exact False.elim hq
  | ok fl =>
    cases fl with
    | next => exact False.elim hq
    | brk => exact False.elim hq
    | cont => exact False.elim hq
    | ret u =>
      obtain ⟨v, H2, I2, rv, it, ev, hn, hsz, eH⟩ := I1.after hq
      subst ev
      subst eH
      cases rv
      have hit : upd H1 it (L2.ItO l it 0) it = some (L2.ItO l it 0) := upd_same
      have eo := L2.itO_get I2 hit
      have hit' := hit
      unfold L2.ItO at hit'
      have hT : s2.TypeIs (.ref it) "list_iterator" := ⟨_, eo, rfl⟩
      show PySem.W.OwitIt _ _ _ _ _ _
      unfold PySem.W.OwitIt
      refine wpAny_specialOf (name := Str.ofString "__next__") hT slot_listiter_next.lookup ?_
      have st : s2.heap.IsListIter it l 0 := ⟨_, eo, rfl, rfl⟩
      have I3 := ItX.inv_drop I2 hit'
      rw [ItX.dropH_upd hn] at I3
      have ff := ItX.inv_fp I2 hit (Nat.le_trans I1.sz hsz)
      rw [ItX.dropH_upd hn] at ff
      refine ⟨it, [it], _, _, H1, rfl, I3, turn_list l it, st, fun b hb => ?_, q⟩
      have e : b = it := by simpa using hb
      rw [e]
      exact ff
/-- len(book) -/
theorem call_lenB (T : Txt X.K X.mg) (F : OkC X.prog X.w X.K X.mg X.base CX0 k ("Book", some "__len__") psI (spLen X.K)) (hr : Room (k + 1) X.A) :
    CallR X (.builtin "len") (fun xs H Q => ∃ a l ys, xs = [.ref a] ∧ BkN X.K H a l ys ∧ ys.length ≤ 1000000 ∧ Q (.int ys.length) H) := by
  intro pins s σ H xs us Q I r h
  obtain ⟨a, l, ys, rfl, hb, hz, q⟩ := h
  obtain ⟨u, rfl, ru⟩ := r.one
  cases ru
  obtain ⟨dx, fs, ha, hl, hlst⟩ := hb
  obtain ⟨mA, J, _⟩ := ins_get I.hok ha
  obtain ⟨od, J, _⟩ := J.look
  obtain ⟨m, hF⟩ := I.fr
  have me := T.me_len
  refine PySem.W.len_K hF I.ok.mod.kin J me.1 me.2 ?_
  obtain ⟨fd, F, bd, kp⟩ := F
  have hsp : spLen X.K [.ref a] H (fun v H2 => v = .int ys.length ∧ H2 = H) (fun _ _ _ => False) := ⟨a, l, ys, rfl, ⟨dx, fs, ha, hl, hlst⟩, rfl, rfl⟩
  have hl1 := F.len _ _ _ _ hsp
  have r2 : Vals [V.ref a] [Value.ref a] := .cons rfl .nil
  refine wpAny_call (codeAny_mono (F.run X.A.in1 X.stack s H ⟨[.ref a], []⟩ [.ref a] [.ref a] _ _ hr.in1 I.env0.in1 (by
    have := bd s [.ref a] I.kIn (by simpa using hl1)
    simpa using this) r2 hsp) fun r s2 hq => ?_)
  cases r with
  | error e => exact False.elim hq
  | ok fl =>
    cases fl with
    | next => exact False.elim hq
    | brk => exact False.elim hq
    | cont => exact False.elim hq
    | ret u =>
      obtain ⟨v, H2, I2, rv, ev, eH⟩ := I.after hq
      subst ev
      subst eH
      obtain ⟨t, rfl⟩ := rv
      exact ⟨⟨Int.natCast_nonneg _, by omega⟩, .int ys.length, H2, I2.tok _, ⟨_, rfl⟩, q⟩
/-- v not in the book -/
def rNotInB (sp : Sp) : R2 := fun x y H Q => ∃ b, y = .ref b ∧ sp [.ref b, x] H (fun v H2 => ∃ c, v = .bl c ∧ Q (.bl (!c)) H2) E0
theorem op_notInB {sp : Sp} (T : Txt X.K X.mg) (F : OkC X.prog X.w X.K X.mg X.base CX0 k ("Book", some "__contains__") psI sp) (hr : Room k X.A)
    (hsI : ∀ vs H Q E, sp vs H Q E → ∃ a dx fs x, vs = [.ref a, x] ∧ H a = some (.ins (He.ga X.K "Book") dx fs)) : OpR X (compareOp .NotIn) (rNotInB sp) := by
  intro pins s σ H x y v u Q I rx ry h
  obtain ⟨b, rfl, hsp⟩ := h
  cases ry
  obtain ⟨a, dx, fs, x', e, ha⟩ := hsI _ _ _ _ hsp
  cases e
  obtain ⟨mA, J, _⟩ := ins_get I.hok ha
  obtain ⟨od, J, _⟩ := J.look
  obtain ⟨m, hF⟩ := I.fr
  have me := T.me_contains
  refine PySem.W.notIn_K hF I.ok.mod.kin J me.1 me.2 ?_
  obtain ⟨fd, F, bd, kp⟩ := F
  have hl1 := F.len _ _ _ _ hsp
  have r2 : Vals [V.ref b, x] [Value.ref b, v] := .cons rfl (.cons rx .nil)
  refine wpAny_call (codeAny_mono (F.run X.A X.stack s H ⟨[.ref b, v], []⟩ [.ref b, v] [.ref b, x] _ _ hr I.env0 (by
    have := bd s [.ref b, v] I.kIn (by simpa using hl1)
    simpa using this) r2 hsp) fun r s2 hq => ?_)
  cases r with
  | error e => exact False.elim hq
  | ok fl =>
    cases fl with
    | next => exact False.elim hq
    | brk => exact False.elim hq
    | cont => exact False.elim hq
    | ret u =>
      obtain ⟨v, H2, I2, rv, c, ev, q⟩ := I.after hq
      subst ev
      cases rv
      exact wpAny_truthy_bool ⟨.bl (!c), H2, I2, rfl, q⟩
end
end K27
set_option Elab.async false
set_option linter.all false
set_option maxRecDepth 100000
set_option maxHeartbeats 4000000
/-! K27Exc: the two error classes that are raised, made by their __init__ (super().__init__(text), then fields). -/
namespace K27
open PySem PySem.Spec PyProof.Rows L2
abbrev PP : Program := PySem.Challenge.pw_livecopy_k27_whole_trees

section
open PySem.W PySem.Calls
variable {prog : Program} {w : World} {A : Around} {E : Value → Shared → Prop} {h : Heap} {g : Array GenState} {d : Drawn} {t : Nat} {os : OsState}
variable {nm q : Str} {C N : Addr} {bs bm : List Value} {hdct : Bool} {sn : List Str} {sub : List Value} {ab : Bool} {col : Option Bool} {dd : Option Addr} {k0 k1 k2 k3 k5 : Option Value}
theorem call_mwVE {u e t0 : Addr} {rest : List Value} {Q : Value → Shared → Prop}
    (hC : h.get? C = some (excClassObj nm q C N bs bm hdct sn sub ab col dd k0 k1 k2 k3 k5 "ValueError.__new__")) (he : h.get? e = some (HandSPX.excO C t0)) (hu : h.get? u = some (kxs_mw "ValueError.__init__" e)) (hrest : rest.length ≤ sizeLine)
    (hq : ∀ h' t1, (∀ b o, b ≠ e → h.get? b = some o → h'.get? b = some o) → h'.get? e = some (HandSPX.excO C t1) → Q .none ⟨h', g, d, t, os⟩) :
    wpAny (model prog w) A (call (.ref u) rest) Q E ⟨h, g, d, t, os⟩ := by
  refine wpAny_call (codeAny_of_tree ?_)
  show wpAny _ A.in1 (callAny (.ref u) ⟨rest, []⟩) _ _ _
  simp only [callAny]
  refine wpAny_bind (wpAny_load hu ?_)
  simp only [kxs_mw, show (Value.type "method-wrapper" == Value.type "method" || Value.type "method-wrapper" == Value.type "builtin_function_or_method" || Value.type "method-wrapper" == Value.type "method-wrapper") = true by decide, if_true]
  refine W.KFB.if_so (by decide) ?_
  refine wpAny_bind (ESX.check_bound F.excBase_ValueError hC he rfl ?_)
  refine wpAny_bind (wpAny_pure (wpAny_pure ?_))
  refine ⟨Code.quiet_builtin _ (by decide +kernel), codeAny_builtin F.excBase_ValueError.initEntry ?_⟩
  rw [Around.under_plainId F.excBase_ValueError.init.plain _]
  wp_walk
  refine hq _ h.objs.size (fun b o hb ho => ?_) ?_
  · rw [Heap.get?_update_other _ _ (Ne.symm hb)]
    exact Heap.get?_push_of_some _ ho
  · rw [Heap.get?_update_self _ (Heap.get?_push_of_some _ he) rfl]
    rfl
end

/-! ### the facts of such a class -/
structure ExF (K : PySem.W.Frag) (C fI : Addr) (q : Str) (st : Stmt) (fs : List Str) : Prop where
  oex : OexC K C
  hd : ∃ cd, PySem.W.clsIn K C = some cd
  init : PySem.W.findIn K (.ref C) "__init__" = some (some (.ref fI))
  ty : PySem.W.typeIn K (.ref fI) = some (.type "function")
  no : ∀ g ∈ fs, PySem.W.findIn K (.ref C) g = some none
  sup : PySem.W.ks_superIn K C C "__init__" = some (some (.builtin "ValueError.__init__"))
  mro : PySem.W.mroIn K C (.ref C) = some true
  sub : PySem.W.subIn K (.ref C) (.type "ValueError") = some true
  fn : ∃ (oc : Value) (od : Option Addr) (kV doc pm : Value) (an : Option Addr) (cda cc : Addr) (ct : Value) (osl : Array (Option Value)),
    K.lookup fI = some ⟨oc, od, .func (PySem.W.ksFn "__init__" q (defArgs st) (defBody st) (defScope st) .none kV doc pm an (.ref cda) ct cc), osl⟩ ∧ PySem.W.codeIn K (.ref cda) q = true ∧
    (∃ ccl cdd vs ccs file tf, K.lookup cda = some ⟨ccl, cdd, .fields vs, ccs⟩ ∧ vs[2]? = some (.str file tf) ∧ ((PP.main.file : Str) == file) = true) ∧
    ∃ cl cld csl, K.lookup cc = some ⟨cl, cld, .cell (some (.ref C)), csl⟩
  thp : PySem.W.nsIn K cStatics "thirdparty.any" = some none
theorem exF_of {K : PySem.W.Frag} {x q : Str} {st : Stmt} {fs : List Str} (h : exOne K x q st fs = true) (e : fnE K x = fnEv q st) (thp : PySem.W.nsIn K cStatics "thirdparty.any" = some none) : ExF K (He.ga K x) (He.ma K (He.ga K x) "__init__") q st fs := by
  unfold exOne at h
  obtain ⟨h1, h⟩ := He.ba h
  obtain ⟨h2, h⟩ := He.ba h
  obtain ⟨h3, h⟩ := He.ba h
  obtain ⟨h4, h⟩ := He.ba h
  obtain ⟨h5, h⟩ := He.ba h
  obtain ⟨h6, h⟩ := He.ba h
  obtain ⟨h7, h⟩ := He.ba h
  obtain ⟨h8, h⟩ := He.ba h
  obtain ⟨h9, h⟩ := He.ba h
  obtain ⟨h10, h⟩ := He.ba h
  obtain ⟨h11, h12⟩ := He.ba h
  have hcls : ∃ nm qq N bs bm sn sub ab col dd k0 k1 k2 k3 k5, K.lookup (He.ga K x) = some (excClassObj nm qq (He.ga K x) N bs bm true sn sub ab col dd k0 k1 k2 k3 k5 "ValueError.__new__") ∧ PySem.HandSPX.refsVE bm = true := by
    split at h1
    · rename_i dd cd sl ho
      split at h1
      · rename_i C' bm k0 k1 k2 k3 n k5 hm hs
        simp only [Bool.and_eq_true, decide_eq_true_eq, Bool.not_eq_true'] at h1
        obtain ⟨hC, hn, hdel, hdd, ht⟩ := h1
        subst hC hn
        obtain ⟨nm, bs, mro, ns, qn, hd, sn, sub, ab, col, del⟩ := cd
        dsimp only at hm hdel hdd
        subst hm hdel hdd
        have hsl : sl = #[k0, k1, k2, k3, some (.builtin "ValueError.__new__"), k5] := by
          obtain ⟨l⟩ := sl
          simp only at hs
          rw [hs]
        subst hsl
        exact ⟨nm, qn, ns, bs, bm, sn, sub, ab, col, dd, k0, k1, k2, k3, k5, ho, ht⟩
      · cases h1
    · cases h1
  refine ⟨⟨hcls, He.eqO_ok h2, of_decide_eq_true h3, of_decide_eq_true h4, h5⟩, ?_, He.eqO_ok h6, of_decide_eq_true h7, fun g hg => He.eqO_ok (List.all_eq_true.mp h8 g hg), He.eqO_ok h9, of_decide_eq_true h10, of_decide_eq_true h11, ?_, thp⟩
  · obtain ⟨nm, qq, N, bs, bm, sn, sub, ab, col, dd, k0, k1, k2, k3, k5, hC, _⟩ := hcls
    exact ⟨_, by unfold PySem.W.clsIn; rw [hC] <;> rfl⟩
  · unfold fnE at e
    cases ql : K.lookup (He.ma K (He.ga K x) "__init__") with
    | none =>
      rw [ql] at h12
      cases h12
    | some o =>
      obtain ⟨oc, od, dt, osl⟩ := o
      rw [ql] at h12 e
      cases dt with
      | func fd =>
        obtain ⟨n1, n2, n3, n4, n5, n6, n7, n8, n9, n10, n11, n12, n13, n14, n15⟩ := fd
        have e2 : (some (n1, n2, n3, n4, n5, n6, n8, n15) : FnE) = fnEv q st := e
        unfold fnEv at e2
        simp only [Option.some.injEq, Prod.mk.injEq] at e2
        obtain ⟨g1, g2, g3, g4, g5, g6, g8, g15⟩ := e2
        subst g1 g2 g3 g4 g5 g6 g8 g15
        obtain ⟨c1, c2⟩ := He.ba h12
        obtain ⟨c3, c4⟩ := He.ba c2
        dsimp only at c1 c3 c4
        cases n13 with
        | ref cda =>
          dsimp only at c3
          have c3' : ∃ ccl cdd vs ccs file tf, K.lookup cda = some ⟨ccl, cdd, .fields vs, ccs⟩ ∧ (vs[2]? : Option Value) = some (.str file tf) ∧ ((PP.main.file : Str) == file) = true := by
            split at c3
            · rename_i ccl cdd vs ccs ho
              split at c3
              · rename_i file tf hv
                exact ⟨ccl, cdd, vs, ccs, file, tf, ho, hv, c3⟩
              · cases c3
            · cases c3
          split at c4
          · rename_i n c
            obtain ⟨c5, c6⟩ := He.ba c4
            have e5 : n = "__class__" := of_decide_eq_true c5
            subst e5
            have c6' : ∃ cl cld csl, K.lookup c = some ⟨cl, cld, .cell (some (.ref (He.ga K x))), csl⟩ := by
              split at c6
              · rename_i cl cld D csl ho
                have eD : D = He.ga K x := of_decide_eq_true c6
                rw [← eD]
                exact ⟨cl, cld, csl, ho⟩
              · cases c6
            exact ⟨oc, od, _, _, _, _, cda, c, _, osl, rfl, c1, c3', c6'⟩
          · cases c4
        | _ => cases c3
      | _ => cases h12

/-! ### the __init__ of such a class, entered; its first statement -/
abbrev envE (q : Str) (sc : Scope) (L f cda cc : Addr) : Env := PySem.W.ksEnv q sc L f (.ref cda) cc
def cxE (w : World) (K : PySem.W.Frag) (mg : Str → Option Value) (base : Heap) (N : List Str) (q : Str) (sc : Scope) (f cda cc : Addr) (A : Around) (outer : List Env) (s : Shared) (H : Hp) : Cx where
  prog := PP
  w := w
  K := K
  mg := mg
  base := base
  A := A.deeper (envE q sc s.heap.objs.size f cda cc)
  N := N
  s_0 := s
  H_0 := H
  env := envE q sc s.heap.objs.size f cda cc
  outer := outer
  stack := envE q sc s.heap.objs.size f cda cc :: outer
  ex := []
  calm := true
  fn := fun _ => false
  pn := []
  xe := fun _ _ => False
/-- what the scope must say -/
structure ScE (N ps : List Str) (sc : Scope) : Prop where
  kind : sc.kind = .function
  co : sc.isCoroutine = false
  gen : sc.isGenerator = false
  nd : N.Nodup
  pre : N.take ps.length = ps
  par : ∀ x ∈ ps, sc.names.lookup x = some .local
  nocell : ∀ y ∈ sc.names, y.2 ≠ .cell
  free : ∀ y ∈ sc.names, y.2 = .free → y.1 = ("__class__" : Str)
  cls : sc.names.lookup ("__class__" : Str) = some .free
  sup : sc.names.lookup ("super" : Str) = some .globalImplicit
theorem rev_look {ps : List Str} (nd : ps.Nodup) : ∀ {us : List Value} {i : Nat} {x : Str} {u : Value}, ps[i]? = some x → us[i]? = some u → (ps.zip us).reverse.lookup x = some u := by
  induction ps with
  | nil => intro us i x u h _; simp at h
  | cons p ps ih =>
    intro us i x u h1 h2
    cases us with
    | nil => simp at h2
    | cons v us =>
      have hnd := List.nodup_cons.mp nd
      have key : ((p, v) :: ps.zip us).reverse.lookup x = some u := by
        rw [List.reverse_cons, List.lookup_append]
        cases i with
        | zero =>
          have e1 : p = x := by simpa using h1
          have e2 : v = u := by simpa using h2
          subst e1 e2
          have hn : (ps.zip us).reverse.lookup p = none := by
            rw [List.lookup_eq_none_iff]
            intro y hy
            have hm : y ∈ ps.zip us := List.mem_reverse.mp hy
            have := (List.of_mem_zip (a := y.1) (b := y.2) hm).1
            simp only [bne_iff_ne, ne_eq]
            intro e
            have e' : p = y.1 := by simpa using e
            rw [← e'] at this
            exact hnd.1 this
          rw [hn]
          simp [List.lookup]
        | succ j =>
          rw [ih hnd.2 (i := j) (by simpa using h1) (by simpa using h2)]
          rfl
      exact key
section
variable {w : World} {K : PySem.W.Frag} {mg : Str → Option Value} {base : Heap} {N ps : List Str} {q : Str} {sc : Scope} {f cda cc C : Addr} {A : Around} {outer : List Env} {s : Shared} {H : Hp}
theorem invE {us : List Value} {vs : List V} {h₀ : Heap} {tk : Nat} (S : ScE N ps sc) (hd : A.handled = none) (e0 : Env0 PP w K mg base A outer s H) (hl : vs.length = ps.length) (r : Vals vs us) {cl : Value} {cld : Option Addr} {csl : Array (Option Value)}
    (hcc : K.lookup cc = some ⟨cl, cld, .cell (some (.ref C)), csl⟩) (hns : h₀.Ns s.heap.objs.size (fun x => (ps.zip us).reverse.lookup x)) (hk : ∀ b o, s.heap.get? b = some o → h₀.get? b = some o) :
    Inv (cxE w K mg base N q sc f cda cc A outer s H) [] (start N vs) H { s with heap := h₀, toks := tk } := by
  have hpl : ps.length ≤ N.length := by have := congrArg List.length S.pre; rw [List.length_take] at this; omega
  have noA : ∀ b : Addr, b ∉ (cxE w K mg base N q sc f cda cc A outer s H).ex := fun b z => absurd (show b ∈ ([] : List Addr) from z) (by simp)
  have one : ∀ {x : Str} {c : Addr}, (cxE w K mg base N q sc f cda cc A outer s H).env.cells.lookup x = some c → x = ("__class__" : Str) ∧ c = cc := fun {x c} h => by
    have h' : List.lookup x [(("__class__" : Str), cc)] = some c := h
    rw [List.lookup_cons] at h'
    cases hb : x == ("__class__" : Str) with
    | true =>
      rw [hb] at h'
      exact ⟨beq_iff_eq.mp hb, (Option.some.inj h').symm⟩
    | false =>
      rw [hb] at h'
      cases h'
  have bcc : base.get? cc = some ⟨cl, cld, .cell (some (.ref C)), csl⟩ := e0.mod.kin _ _ hcc
  have kcc := e0.bs _ _ bcc
  refine ⟨⟨e0.mod, S.kind, rfl, rfl, Nat.le_refl _, fun y z c h1 h2 => ?_, fun y hy => ?_, fun y c z _ => absurd (show false = true from z) Bool.false_ne_true, fun _ => hd, Around.frames_deeper e0.frames, .inr ⟨rfl, rfl⟩, fun b z => absurd z (noA b), e0.bs, e0.bsz, fun b _ _ => noA b, fun b z => absurd z (noA b), e0.funs, e0.frf⟩,
    rfl, e0.bare, Un.kept hk, ⟨_, hns, fun i y v h1 h2 h3 => ?_⟩, fun y c h => ?_, e0.hok.fresh (Nat.le_refl _), fun y c h => ?_, fun p hp => absurd (show p ∈ ([] : List (Addr × Obj)) from hp) (by simp), e0.hok.kept hk, ?_⟩
  · rw [(one h1).1, (one h2).1]
  · have hy : sc.names.lookup y = some .cell ∨ sc.names.lookup y = some .free := hy
    rcases hy with hy | hy
    · exact absurd rfl (S.nocell _ (PySem.mem_of_lookup hy))
    · have e := S.free _ (PySem.mem_of_lookup hy) rfl
      dsimp only at e
      subst e
      exact ⟨cc, by show List.lookup _ [(("__class__" : Str), cc)] = some cc; simp [List.lookup]⟩
  · have hi : i < vs.length := by
      unfold L2.start at h2
      by_cases hi : i < vs.length
      · exact hi
      · rw [List.getElem?_append_right (by simpa using hi)] at h2
        rw [List.getElem?_replicate] at h2
        split at h2 <;> cases h2
    have ha : vs[i]? = some v := by
      unfold L2.start at h2
      rw [List.getElem?_append_left (by simpa using hi), List.getElem?_map] at h2
      cases e : vs[i]? with
      | none => rw [e] at h2; cases h2
      | some a => rw [e] at h2; cases h2; rfl
    obtain ⟨u, hu, rv⟩ := r.get ha
    have hp : ps[i]? = some y := by
      rw [← S.pre, List.getElem?_take_of_lt (by omega)]; exact h1
    have ndP : ps.Nodup := by rw [← S.pre]; exact S.nd.sublist (List.take_sublist _ _)
    exact ⟨u, rv, .inl ⟨S.par y (List.mem_of_getElem? hp), rev_look ndP hp hu⟩⟩
  · rw [(one h).2]
    exact ⟨_, _, hk _ _ kcc.1, rfl⟩
  · rw [(one h).2]
    exact kcc.2
  · unfold L2.start
    show _ = N.length
    rw [List.length_append, List.length_map, List.length_replicate]
    omega
end
section
variable {w : World} {K : PySem.W.Frag} {mg : Str → Option Value} {base : Heap} {N ps : List Str} {q : Str} {st : Stmt} {fs : List Str} {C fI : Addr} {sp : Sp}
/-- THE RULE: such an __init__, by the walk of what stands behind its first statement -/
theorem fn_ofE (F : ExF K C fI q st fs) (zS : mg ("super" : Str) = none) (S : ScE N ps (defScope st)) {p0 p1 p2 p3 p4 p5 : Pos} {msg : Str} {j : Nat} {rest : List Stmt} {ar : Arg}
    (hbody : defBody st = .Expr (.Call (.Attribute (.Call (.Name "super" p0) [] [] p1) "__init__" p2) [.Constant (.str msg) j p3] [] p4) p5 :: rest)
    (har : ((defArgs st).posonlyargs ++ (defArgs st).args).head? = some ar) (har2 : N[0]? = some ar.arg) (har3 : (defScope st).names.lookup ar.arg = some .local) 
    (hb0 : ∀ (kV doc pm : Value) (an : Option Addr) (cdv ct : Value) (cc : Addr) (us : List Value), us.length = ps.length → bindArgs (PySem.W.ksFn "__init__" q (defArgs st) (defBody st) (defScope st) .none kV doc pm an cdv ct cc) ⟨us, []⟩ = pure (ps.zip us))
    (hcall : ∀ env : Env, ∃ pl : Sem Bool, eval (.Call (.Attribute (.Call (.Name "super" p0) [] [] p1) "__init__" p2) [.Constant (.str msg) j p3] [] p4) env = (do
      let ov ← attributeBase (.Call (.Name "super" p0) [] [] p1) "__init__" env (eval (.Call (.Name "super" p0) [] [] p1) env)
      standAt p2.atName
      let (f, first) ← holding [ov] (getMethod ov "__init__" pl)
      callWith p4 f first (backTo p4 (starEach [.Constant (.str msg) j p3] env)) []))
    (hsw : ∀ env : Env, swapsWith (.Call (.Attribute (.Call (.Name "super" p0) [] [] p1) "__init__" p2) [.Constant (.str msg) j p3] [] p4) none p5.line env = pure false)
    (len : ∀ vs H Q E, sp vs H Q E → vs.length = ps.length)
    (hrest : ∀ (cda cc : Addr) (A : Around) (outer : List Env) (s : Shared) (H : Hp) (vs : List V) (Q : VK) (E : XK), sp vs H Q E →
      (∃ a r, vs = .ref a :: r ∧ H a = some (exo a C none)) ∧ ∃ t, PSs (cxE w K mg base N q (defScope st) fI cda cc A outer s H) rest t ∧ t { nx := fun _ H' => Q .non H', rt := Q } (L2.start N vs) H) :
    ∃ fd, FnOk PP w K mg base CX0 1 fI fd ps sp ∧ Binds K fd ps [] := by
  obtain ⟨oc, od, kV, doc, pm, an, cda, cc, ct, osl, lk, hcd, ⟨ccl, cdd, vsc, ccs, file, tf, hcode, hvs, hfile⟩, cl, cld, csl, hcell⟩ := F.fn
  refine ⟨PySem.W.ksFn "__init__" q (defArgs st) (defBody st) (defScope st) .none kV doc pm an (.ref cda) ct cc, ⟨len, fun A outer s H args us vs Q E hr e0 hb r hsp => ?_⟩, .all (hb0 _ _ _ _ _ _ _)⟩
  have hl := len _ _ _ _ hsp
  have KX : K.In s.heap := e0.mod.kin.keeps fun b o e => (e0.bs b o e).1
  have lim : s.heap.NoLimit := e0.mod.nolimit.keeps fun b o e => (e0.bs b o e).1
  refine PySem.ks_codeAny_call_defAt (fd := PySem.W.ksFn "__init__" q (defArgs st) (defBody st) (defScope st) .none kV doc pm an (.ref cda) ct cc) (body := defBody st) (binds := ps.zip us) hr.depth (KX _ _ lk) rfl lim (PySem.W.codeRec_of KX hcd) rfl hb S.nocell
    (fun y hy => S.par _ (List.of_mem_zip (a := y.1) (b := y.2) hy).1) (fun h₀ hns hk => ?_) S.co S.gen S.kind
  have I : Inv (cxE w K mg base N q (defScope st) fI cda cc A outer s H) [] (L2.start N vs) H { s with heap := h₀, toks := s.toks + (ps.zip us).length } := invE S hr.hd e0 hl r hcell hns hk
  obtain ⟨⟨a, rv, ev, ha⟩, t, ht, hq⟩ := hrest cda cc A outer s H vs Q E hsp
  refine PySem.ks_wpAt_mono (Q := SP (cxE w K mg base N q (defScope st) fI cda cc A outer s H) [] { nx := fun _ H' => Q .non H', rt := Q }) (E := fun _ _ => False) ?_ (fun fl s' hs => ?_) fun _ _ z => z.elim
  case refine_2 =>
    have fin : ∀ {σ' : L2.St} {H' : Hp} {v : V} {u : Value}, Inv (cxE w K mg base N q (defScope st) fI cda cc A outer s H) [] σ' H' s' → RelV v u → Q v H' → CE outer PP w H s Q u s' :=
      fun {σ' H' v u} J rv q => ⟨v, H', J.os, J.bare, J.base, J.hok, rv, q⟩
    cases fl with
    | ret u =>
      obtain ⟨v, σ', H', J, rv, q⟩ := hs
      exact fin J rv q
    | next =>
      obtain ⟨σ', H', J, q⟩ := hs
      exact fin (v := V.non) (u := Value.none) J rfl q
    | brk =>
      obtain ⟨_, _, _, q⟩ := hs
      exact False.elim q
    | cont =>
      obtain ⟨_, _, _, q⟩ := hs
      exact False.elim q
  rw [hbody]
  have KX0 : K.In h₀ := KX.keeps hk
  obtain ⟨cdD, hcD⟩ := F.hd
  obtain ⟨oD, hD1, hD2⟩ : ∃ oD, K.lookup C = some oD ∧ oD.data = .cls cdD := by
    unfold PySem.W.clsIn at hcD
    split at hcD
    · rename_i c d cd' sl ho
      cases hcD
      exact ⟨_, ho, rfl⟩
    · cases hcD
  obtain ⟨pl, hcl⟩ := hcall (envE q (defScope st) s.heap.objs.size fI cda cc)
  have hqt : interactive (envE q (defScope st) s.heap.objs.size fI cda cc) = false := I.quiet
  refine PySem.ks_wpAt_execs_cons (PySem.ks_wpAt_Expr_any (PySem.ks_wpAt_MethodCall (pl := pl) ?_ hcl) hqt (hsw _))
  have hks : (envE q (defScope st) s.heap.objs.size fI cda cc).kindOf "super" = some .globalImplicit := S.sup
  have hkc : (envE q (defScope st) s.heap.objs.size fI cda cc).kindOf "__class__" = some .free := S.cls
  have hke : (envE q (defScope st) s.heap.objs.size fI cda cc).scope.kind = .function := S.kind
  refine PySem.ks_wpAt_super_base (env := envE q (defScope st) s.heap.objs.size fI cda cc) hks hkc (by decide +kernel) rfl (KX0 _ _ lk) rfl har rfl (KX0 _ _ hcode) rfl hvs hfile (by decide +kernel) ?_
  obtain ⟨mb, hb1, hb2⟩ := I.mod.blt
  refine PySem.W.ks_loadName_global hke hks (Calls.loadGlobal_builtin (by exact I.mod.glob.keeps I.bk) zS (by exact hb1.keeps I.bk) ((hb2 "super" (by decide)).trans (by decide +kernel)) ⟨rfl, ?_⟩)
  refine wpAny_loadName_free hke hkc rfl ⟨_, KX0 _ _ hcell, rfl⟩ ?_
  obtain ⟨mL, hmL, hlL⟩ := id I.loc
  obtain ⟨u0, ru0, lk0⟩ := hlL 0 ar.arg (.ref a) har2 (by rw [ev]; rfl) (.inl har3)
  have eu0 : u0 = Value.ref a := ru0
  subst eu0
  have hm0 : mL ar.arg = some (.ref a) := by
    rcases lk0 with ⟨_, z⟩ | ⟨z, _⟩
    · exact z
    · have z' : (defScope st).names.lookup ar.arg = some .cell ∨ (defScope st).names.lookup ar.arg = some .free := z
      rw [har3] at z'
      rcases z' with z' | z' <;> cases z'
  refine wpAny_loadName_local hke har3 hmL hm0 ?_
  refine PySem.ks_wpAny_isType_cls (KX0 _ _ hD1) hD2 ⟨rfl, ?_⟩
  obtain ⟨t1, hx⟩ := exo_at I.hok ha
  refine PySem.ks_wpAny_call_super (KX0 _ _ hD1) hD2 hx rfl (fun c e => by cases e) (PySem.W.looks_mroIn KX0 F.mro) (fun h1 hso k1 => ?_)
  have I1 : Inv (cxE w K mg base N q (defScope st) fI cda cc A outer s H) [] (L2.start N vs) H { s with heap := h1, toks := s.toks + (ps.zip us).length } := I.kept (h' := h1) (t' := s.toks + (ps.zip us).length) k1
  have KX1 : K.In h1 := KX0.keeps k1
  have J1 : PySem.W.InstAt h1 a _ C none := ⟨k1 _ _ hx, rfl, rfl, trivial⟩
  have hcE := hcD
  have hsupE := F.sup
  unfold PySem.W.ks_superIn at hsupE
  rw [hcD] at hsupE
  refine PySem.W.kxs_getMethod PySem.W.kxs_ValueError hso (PySem.W.looks_opaque KX1 F.thp) (l₀ := cdD.mro) (fun A Q E s k q => wpAny_bind ((PySem.W.looks_clsIn KX1 hcD) A _ E s k (wpAny_pure q))) rfl KX1 hsupE (J1.type.andThen (PySem.W.looks_subIn KX1 F.sub)) (PySem.W.ks_ne KX1 J1 hcD) (by decide +kernel) ?_
  have hgu : (h1.push (PySem.W.kxs_mw "ValueError.__init__" a)).get? h1.objs.size = some (PySem.W.kxs_mw "ValueError.__init__" a) := Heap.get?_push_size _ rfl
  have I2 : Inv (cxE w K mg base N q (defScope st) fI cda cc A outer s H) [] (L2.start N vs) H { s with heap := h1.push (PySem.W.kxs_mw "ValueError.__init__" a), toks := s.toks + (ps.zip us).length + 1 } :=
    I1.kept (h' := h1.push (PySem.W.kxs_mw "ValueError.__init__" a)) (t' := s.toks + (ps.zip us).length + 1) fun b o e => Heap.get?_push_of_some _ e
  have I2p : Inv (cxE w K mg base N q (defScope st) fI cda cc A outer s H) [(h1.objs.size, PySem.W.kxs_mw "ValueError.__init__" a)] (L2.start N vs) H { s with heap := h1.push (PySem.W.kxs_mw "ValueError.__init__" a), toks := s.toks + (ps.zip us).length + 1 } :=
    I2.pins_of fun p hp => by
      have e : p = (h1.objs.size, PySem.W.kxs_mw "ValueError.__init__" a) := by simpa using hp
      subst e
      exact ⟨hgu, I1.hok.fresh (Nat.le_refl _), Nat.ne_of_gt I1.lt, I1.nofs (Nat.le_refl _), fun v z => by cases z⟩
  have hst : starEach [Expr.Constant (.str msg) j p3] (envE q (defScope st) s.heap.objs.size fI cda cc) = (false, eval (.Constant (.str msg) j p3) (envE q (defScope st) s.heap.objs.size fI cda cc)) :: starEach [] (envE q (defScope st) s.heap.objs.size fI cda cc) := rfl
  show wpAny _ _ (callWith p4 (.ref h1.objs.size) [] (backTo p4 (starEach [Expr.Constant (.str msg) j p3] (envE q (defScope st) s.heap.objs.size fI cda cc))) []) _ _ _
  have hpa : PA (cxE w K mg base N q (defScope st) fI cda cc A outer s H) [Expr.Constant (.str msg) j p3] (tCons (tC (.str msg)) tNil) := pa_cons pe_str pa_nil hst
  have hrun := hpa.run p4 [(h1.objs.size, PySem.W.kxs_mw "ValueError.__init__" a)] _ (L2.start N vs) H (fun zs H2 => zs = [.str msg] ∧ H2 = H) I2p ⟨rfl, rfl⟩
  refine PySem.W.kxs_callWith (i := "ValueError.__init__") (x := a) (by rw [hst]; rfl) ?_
  refine Calls.evalArgs_plain (x := eval (.Constant (.str msg) j p3) (envE q (defScope st) s.heap.objs.size fI cda cc)) (rest := backTo p4 (starEach [] (envE q (defScope st) s.heap.objs.size fI cda cc))) ?_
  refine wpAny_mono hrun (fun us2 s2 h2 => ?_) fun _ _ z => z
  obtain ⟨zs, H2, I3, rz, ez, eH⟩ := h2
  subst ez
  rw [eH] at I3
  obtain ⟨t3, hx3⟩ := exo_at I3.hok ha
  have hu3 : s2.heap.get? h1.objs.size = some (PySem.W.kxs_mw "ValueError.__init__" a) := (I3.pin (h1.objs.size, PySem.W.kxs_mw "ValueError.__init__" a) (List.mem_append_right _ List.mem_cons_self)).1
  have I3 := I3.pins_of (pins' := []) fun p hp => absurd hp (by simp)
  refine ⟨hu3, ?_⟩
  obtain ⟨nm, q', Nn, bs, bm, sn, sub, ab, col, dd, k0, k1, k2, k3, k5, hC, hbm⟩ := F.oex.cls
  obtain ⟨hp3, g3, d3, tk3, os3⟩ := s2
  refine call_mwVE (I3.kIn _ _ hC) hx3 hu3 (by show us2.length ≤ sizeLine; rw [← rz.length]; show 1 ≤ sizeLine; decide) fun h4 t4 k4 hx4 => ?_
  have J := I3.write (t' := tk3) (x := a) (e := a) (o := exo a C none) (by rw [ha]; exact True.intro) (.inl rfl) k4 ⟨_, hx4⟩ (exo_ok hx4)
  have eu : upd H a (exo a C none) = H := by
    funext b
    by_cases hb : b = a
    · rw [hb, upd_same, ha]
    · rw [upd_ne hb]
  rw [eu] at J
  exact wpAt_of_wpAny (ht.run [] _ _ _ _ J hq)
end

/-! ### the two classes -/
def spX1 (C : Addr) (f : Str) : Sp := fun vs H Q _ => ∃ a v, vs = [.ref a, v] ∧ H a = some (exo a C none) ∧ ∀ dx, H dx = none → dx ≠ a → Q .non (upd (upd H dx (exd dx [(f, v)])) a (exo a C (some dx)))
def spX2 (C : Addr) (f g : Str) : Sp := fun vs H Q _ => ∃ a v u, vs = [.ref a, v, u] ∧ H a = some (exo a C none) ∧ ∀ dx, H dx = none → dx ≠ a → Q .non (upd (upd (upd H dx (exd dx [(f, v)])) a (exo a C (some dx))) dx (exd dx [(g, u), (f, v)]))
theorem scXU : ScE ["self", "number"] ["self", "number"] (defScope s_XUnknownPatch) := ⟨rfl, rfl, rfl, by decide +kernel, rfl, by decide +kernel, by decide +kernel, by decide +kernel, by decide +kernel, by decide +kernel⟩
theorem scXN : ScE ["self", "first", "second"] ["self", "first", "second"] (defScope s_XNotATree) := ⟨rfl, rfl, rfl, by decide +kernel, rfl, by decide +kernel, by decide +kernel, by decide +kernel, by decide +kernel, by decide +kernel⟩
section
variable {w : World} {K : PySem.W.Frag} {mg : Str → Option Value} {base : Heap}
theorem Txt.exU (T : Txt K mg) : ExF K (He.ga K "UnknownPatch") (He.ma K (He.ga K "UnknownPatch") "__init__") "UnknownPatch.__init__" s_XUnknownPatch ["number"] := by
  have e := T.e
  unfold exB at e
  obtain ⟨h1, h⟩ := He.ba e
  obtain ⟨h2, h⟩ := He.ba h
  obtain ⟨h3, h⟩ := He.ba h
  obtain ⟨h4, h⟩ := He.ba h
  obtain ⟨h5, h⟩ := He.ba h
  obtain ⟨h6, h7⟩ := He.ba h
  have f := T.f
  injection f with f1 f2
  exact exF_of h1 f1 (He.eqO_ok h7)
theorem Txt.exN (T : Txt K mg) : ExF K (He.ga K "NotATree") (He.ma K (He.ga K "NotATree") "__init__") "NotATree.__init__" s_XNotATree ["first", "second"] := by
  have e := T.e
  unfold exB at e
  obtain ⟨h1, h⟩ := He.ba e
  obtain ⟨h2, h⟩ := He.ba h
  obtain ⟨h3, h⟩ := He.ba h
  obtain ⟨h4, h⟩ := He.ba h
  obtain ⟨h5, h⟩ := He.ba h
  obtain ⟨h6, h7⟩ := He.ba h
  have f := T.f
  injection f with f1 f2
  injection f2 with f2 f3
  exact exF_of h2 f2 (He.eqO_ok h7)
theorem ok_exU (T : Txt K mg) : ∃ fd, FnOk PP w K mg base CX0 1 (He.ma K (He.ga K "UnknownPatch") "__init__") fd ["self", "number"] (spX1 (He.ga K "UnknownPatch") "number") ∧ Binds K fd ["self", "number"] [] := by
  refine fn_ofE T.exU T.z_super scXU (by rfl) (by rfl) (by rfl) (by decide +kernel) (fun _ _ _ _ _ _ _ us hl => match us, hl with | [_, _], _ => rfl) (fun env => ⟨_, rfl⟩) (fun env => rfl) (fun vs H Q E h => ?_) (fun cda cc A outer s H vs Q E h => ?_)
  · obtain ⟨a, v, rfl, _⟩ := h
    rfl
  · obtain ⟨a, v, rfl, ha, q⟩ := h
    refine ⟨⟨a, [v], rfl, ha⟩, _, pss_one (ps_ost (pv 0) (pv 1)), ?_⟩
    exact ⟨v, rfl, .ref a, rfl, a, _, rfl, T.exU.oex, T.exU.no _ (by decide), .inl ⟨ha, fun dx h1 h2 => q dx h1 h2⟩⟩
theorem ok_exN (T : Txt K mg) : ∃ fd, FnOk PP w K mg base CX0 1 (He.ma K (He.ga K "NotATree") "__init__") fd ["self", "first", "second"] (spX2 (He.ga K "NotATree") "first" "second") ∧ Binds K fd ["self", "first", "second"] [] := by
  refine fn_ofE T.exN T.z_super scXN (by rfl) (by rfl) (by rfl) (by decide +kernel) (fun _ _ _ _ _ _ _ us hl => match us, hl with | [_, _, _], _ => rfl) (fun env => ⟨_, rfl⟩) (fun env => rfl) (fun vs H Q E h => ?_) (fun cda cc A outer s H vs Q E h => ?_)
  · obtain ⟨a, v, u, rfl, _⟩ := h
    rfl
  · obtain ⟨a, v, u, rfl, ha, q⟩ := h
    refine ⟨⟨a, [v, u], rfl, ha⟩, _, pss_cons (ps_ost (pv 0) (pv 1)) (pss_one (ps_ost (pv 0) (pv 2))), ?_⟩
    refine ⟨v, rfl, .ref a, rfl, a, _, rfl, T.exN.oex, T.exN.no _ (by decide), .inl ⟨ha, fun dx h1 h2 => ?_⟩⟩
    exact ⟨u, rfl, .ref a, rfl, a, _, rfl, T.exN.oex, T.exN.no _ (by decide), .inr ⟨dx, [("first", v)], upd_same, by rw [upd_ne h2, upd_same], (by show 1 ≤ 900; decide), q dx h1 h2⟩⟩
end
section
variable {X : Cx} {e : Expr} {es : List Expr} {t : TA} {p pos : Pos}
/-- UnknownPatch(e), NotATree(e, e') -/
theorem pmk_U (hP : X.prog = PP) (T : Txt X.K X.mg) (hr : Room 2 X.A) (ha : PA X (e :: es) t) (hg : Gl X "UnknownPatch" := by rfl)
    (he : starEach (e :: es) X.env = (false, eval e X.env) :: starEach es X.env := by rfl) (hpl : (backTo pos (starEach es X.env)).any (·.1) = false := by rfl) :
    PMk X (.Call (.Name "UnknownPatch" p) (e :: es) [] pos) (tMkO (He.ga X.K "UnknownPatch") (spX1 (He.ga X.K "UnknownPatch") "number") [] t) := by
  obtain ⟨fd, F, b⟩ := ok_exU (w := X.w) (base := X.base) T
  rw [← hP] at F
  exact pmk_oex T.exU.oex T.exU.init T.exU.ty F hr b .nil (fun _ _ _ _ _ _ _ h => h.elim) hg T.g_UnknownPatch ha (by decide) he hpl
theorem pmk_N (hP : X.prog = PP) (T : Txt X.K X.mg) (hr : Room 2 X.A) (ha : PA X (e :: es) t) (hg : Gl X "NotATree" := by rfl)
    (he : starEach (e :: es) X.env = (false, eval e X.env) :: starEach es X.env := by rfl) (hpl : (backTo pos (starEach es X.env)).any (·.1) = false := by rfl) :
    PMk X (.Call (.Name "NotATree" p) (e :: es) [] pos) (tMkO (He.ga X.K "NotATree") (spX2 (He.ga X.K "NotATree") "first" "second") [] t) := by
  obtain ⟨fd, F, b⟩ := ok_exN (w := X.w) (base := X.base) T
  rw [← hP] at F
  exact pmk_oex T.exN.oex T.exN.init T.exN.ty F hr b .nil (fun _ _ _ _ _ _ _ h => h.elim) hg T.g_NotATree ha (by decide) he hpl
end
end K27
set_option Elab.async false
set_option linter.all false
set_option maxRecDepth 100000
/-! K27Bits: masks of numbers as sets. -/
namespace K27
open PySem
/-- the bits of m are the set S -/
def Bt (m : Nat) (S : Nat → Bool) : Prop := ∀ i, m.testBit i = S i
theorem Bt.eq {m m' : Nat} {S : Nat → Bool} (h : Bt m S) (h' : Bt m' S) : m = m' := Nat.eq_of_testBit_eq fun i => (h i).trans (h' i).symm
theorem Bt.congr {m : Nat} {S S' : Nat → Bool} (h : Bt m S) (e : ∀ i, S i = S' i) : Bt m S' := fun i => (h i).trans (e i)
theorem bits_zero : Bt 0 (fun _ => false) := fun i => Nat.zero_testBit i
theorem bits_or {a b : Nat} {S T : Nat → Bool} (h : Bt a S) (h' : Bt b T) : Bt (a ||| b) (fun i => S i || T i) := fun i => by
  rw [Nat.testBit_or, h i, h' i]
theorem bits_and {a b : Nat} {S T : Nat → Bool} (h : Bt a S) (h' : Bt b T) : Bt (a &&& b) (fun i => S i && T i) := fun i => by
  rw [Nat.testBit_and, h i, h' i]
theorem bits_one (n : Nat) : Bt (2 ^ n) (fun i => decide (n = i)) := fun i => Nat.testBit_two_pow ..
theorem bOr (a b : Nat) : Builtin.bitOr (a : Int) (b : Int) = ((a ||| b : Nat) : Int) := by
  rw [_root_.Bits.bitOr_pp (Int.natCast_nonneg _) (Int.natCast_nonneg _), Int.toNat_natCast, Int.toNat_natCast]
theorem bAnd (a b : Nat) : Builtin.bitAnd (a : Int) (b : Int) = ((a &&& b : Nat) : Int) := by
  rw [show Builtin.bitAnd (a : Int) (b : Int) = (((a : Int).toNat &&& (b : Int).toNat : Nat) : Int) by unfold Builtin.bitAnd; rw [decide_eq_true (Int.natCast_nonneg a), decide_eq_true (Int.natCast_nonneg b)], Int.toNat_natCast, Int.toNat_natCast]
theorem and_le (a b : Nat) : a &&& b ≤ a := Nat.and_le_left
/-- a & ~b -/
theorem bAndNot (a b : Nat) : Builtin.bitAnd (a : Int) (Builtin.bitNot (b : Int)) = ((a - (a &&& b) : Nat) : Int) := by
  have h1 : decide (0 ≤ (a : Int)) = true := decide_eq_true (Int.natCast_nonneg a)
  have h2 : decide (0 ≤ Builtin.bitNot (b : Int)) = false := decide_eq_false (by unfold Builtin.bitNot; omega)
  have h3 : Builtin.bitNot (Builtin.bitNot (b : Int)) = (b : Int) := by unfold Builtin.bitNot; omega
  unfold Builtin.bitAnd
  rw [h1, h2]
  show (a : Int) - (((a : Int).toNat &&& (Builtin.bitNot (Builtin.bitNot (b : Int))).toNat : Nat) : Int) = _
  rw [h3, Int.toNat_natCast, Int.toNat_natCast]
  have := and_le a b
  omega
theorem bits_sub {a b : Nat} {S T : Nat → Bool} (h : Bt a S) (h' : Bt b T) : Bt (a - (a &&& b)) (fun i => S i && !T i) := by
  -- a = (a &&& b) + r with r the bits of a outside b
  intro i
  have key : ∀ (n a b : Nat), a < 2 ^ n → ∀ i, (a - (a &&& b)).testBit i = (a.testBit i && !b.testBit i) := by
    intro n
    induction n with
    | zero =>
      intro a b ha i
      have : a = 0 := by omega
      subst this
      simp
    | succ n ih =>
      intro a b ha i
      have e1 : a - (a &&& b) = 2 * (a / 2 - (a / 2 &&& b / 2)) + (a % 2 - (a % 2 &&& b % 2)) := by
        have q1 : a &&& b = 2 * (a / 2 &&& b / 2) + (a % 2 &&& b % 2) := by
          have d := Nat.div_add_mod (a &&& b) 2
          rw [Nat.and_div_two, Nat.and_mod_two_pow (n := 1)] at d
          simpa using d.symm
        have l1 : (a / 2 &&& b / 2) ≤ a / 2 := Nat.and_le_left
        have l2 : (a % 2 &&& b % 2) ≤ a % 2 := Nat.and_le_left
        omega
      have l2 : a % 2 - (a % 2 &&& b % 2) < 2 := by omega
      rw [e1]
      cases i with
      | zero =>
        have q2 : ∀ x y : Nat, x < 2 → y < 2 → decide ((x - (x &&& y)) % 2 = 1) = (decide (x % 2 = 1) && !decide (y % 2 = 1)) := fun x y hx hy => by
            rcases (show x = 0 ∨ x = 1 by omega) with rfl | rfl <;> rcases (show y = 0 ∨ y = 1 by omega) with rfl | rfl <;> decide
        have q3 := q2 (a % 2) (b % 2) (Nat.mod_lt _ (by decide)) (Nat.mod_lt _ (by decide))
        simp only [Nat.testBit_zero]
        rw [Nat.mul_add_mod]
        simpa using q3
      | succ j =>
        rw [Nat.testBit_succ, Nat.testBit_succ, Nat.testBit_succ]
        have e2 : (2 * (a / 2 - (a / 2 &&& b / 2)) + (a % 2 - (a % 2 &&& b % 2))) / 2 = a / 2 - (a / 2 &&& b / 2) := by omega
        rw [e2]
        exact ih (a / 2) (b / 2) (by rw [Nat.pow_succ] at ha; omega) j
  rw [key a a b Nat.lt_two_pow_self i, h i, h' i]
/-- m & -m of a mask that is not empty: the least bit -/
theorem bLow (m : Nat) (hm : m ≠ 0) : ∃ k, m.testBit k = true ∧ (∀ i, i < k → m.testBit i = false) ∧ Builtin.bitAnd (m : Int) (-(m : Int)) = ((2 ^ k : Nat) : Int) := by
  have key : ∀ (n m : Nat), m < 2 ^ n → m ≠ 0 → ∃ k, m.testBit k = true ∧ (∀ i, i < k → m.testBit i = false) ∧ m - (m &&& (m - 1)) = 2 ^ k := by
    intro n
    induction n with
    | zero => intro m h1 h2; omega
    | succ n ih =>
      intro m h1 h2
      by_cases hp : m % 2 = 1
      · refine ⟨0, by simp [hp], fun i hi => by omega, ?_⟩
        have q1 : m &&& (m - 1) = m - 1 := by
          have d := Nat.div_add_mod (m &&& (m - 1)) 2
          have e1 : (m - 1) / 2 = m / 2 := by omega
          have e2 : (m - 1) % 2 = 0 := by omega
          have e3 : (m &&& (m - 1)) / 2 = m / 2 := by rw [Nat.and_div_two, e1, Nat.and_self]
          have e4 : (m &&& (m - 1)) % 2 = 0 := by
            have := Nat.and_mod_two_pow (a := m) (b := m - 1) (n := 1)
            simp only [Nat.pow_one] at this
            rw [this, e2, Nat.and_zero]
          omega
        rw [q1]
        show m - (m - 1) = 1
        omega
      · obtain ⟨k, k1, k2, k3⟩ := ih (m / 2) (by rw [Nat.pow_succ] at h1; omega) (by omega)
        refine ⟨k + 1, by rw [Nat.testBit_succ]; exact k1, fun i hi => ?_, ?_⟩
        · cases i with
          | zero => simp [hp]
          | succ j => rw [Nat.testBit_succ]; exact k2 j (by omega)
        · have e1 : (m - 1) / 2 = m / 2 - 1 := by omega
          have e3 : (m &&& (m - 1)) / 2 = (m / 2 &&& (m / 2 - 1)) := by rw [Nat.and_div_two, e1]
          have e4 : (m &&& (m - 1)) % 2 = 0 := by
            have := Nat.and_mod_two_pow (a := m) (b := m - 1) (n := 1)
            simp only [Nat.pow_one] at this
            rw [this, show m % 2 = 0 by omega, Nat.zero_and]
          have l := and_le m (m - 1)
          have l2 := and_le (m / 2) (m / 2 - 1)
          rw [Nat.pow_succ]
          omega
  obtain ⟨k, k1, k2, k3⟩ := key m m Nat.lt_two_pow_self hm
  refine ⟨k, k1, k2, ?_⟩
  have e : (-(m : Int)) = Builtin.bitNot ((m - 1 : Nat) : Int) := by unfold Builtin.bitNot; omega
  rw [e, bAndNot, k3]
/-- m >> k & 1 -/
theorem bAt (m k : Nat) : Builtin.bitAnd ((m : Int) / 2 ^ k) 1 = if m.testBit k then 1 else 0 := by
  have e : ((m : Int) / 2 ^ k) = ((m / 2 ^ k : Nat) : Int) := by
    rw [Int.natCast_ediv]
    simp
  rw [e]
  have e1 : (1 : Int) = ((1 : Nat) : Int) := rfl
  rw [e1, bAnd, Nat.and_one_is_mod]
  have t : m.testBit k = decide (m / 2 ^ k % 2 = 1) := by
    rw [Nat.testBit_eq_decide_div_mod_eq]
  rw [t]
  by_cases h : m / 2 ^ k % 2 = 1
  · rw [h]; simp
  · have h0 : m / 2 ^ k % 2 = 0 := by omega
    rw [h0]; simp
theorem ne_zero_of_bit {m k : Nat} (h : m.testBit k = true) : m ≠ 0 := by
  intro e
  subst e
  simp at h
theorem zero_of_bits {m : Nat} {S : Nat → Bool} (h : Bt m S) (e : ∀ i, S i = false) : m = 0 := Bt.eq (S := fun _ => false) (h.congr e) bits_zero
theorem bit_of_ne {m : Nat} (h : m ≠ 0) : ∃ k, m.testBit k = true := by
  obtain ⟨k, k1, _⟩ := bLow m h
  exact ⟨k, k1⟩
theorem bLen_top {m k : Nat} (h : m.testBit k = true) (hi : ∀ i, k < i → m.testBit i = false) : Builtin.Int.intBits (m : Int) = k + 1 := by
  have hm : m ≠ 0 := ne_zero_of_bit h
  have h1 : 2 ^ k ≤ m := Nat.ge_two_pow_of_testBit h
  have h2 : m < 2 ^ (k + 1) := by
    apply Nat.lt_pow_two_of_testBit
    intro i hik
    exact hi i (by omega)
  have h3 : m.log2 = k := by
    have a := (Nat.le_log2 hm).mpr h1
    have b := (Nat.log2_lt hm).mpr h2
    omega
  unfold Builtin.Int.intBits
  simp [hm, h3]
theorem bLen_pow (k : Nat) : Builtin.Int.intBits ((2 ^ k : Nat) : Int) = k + 1 :=
  bLen_top (by rw [bits_one k k]; simp) fun i hi => by rw [bits_one k i]; exact decide_eq_false (by omega)
end K27
set_option Elab.async false
set_option linter.all false
set_option maxRecDepth 100000
set_option maxHeartbeats 4000000
/-! K27Math: the books as relations; versions, trees; no program here. -/
namespace K27

/-! ### ascending lists -/
def asc (n : Nat) (S : Nat → Bool) : List Nat := (List.range' 1 n).filter S
theorem mem_asc {n o : Nat} {S : Nat → Bool} : o ∈ asc n S ↔ (1 ≤ o ∧ o ≤ n) ∧ S o = true := by
  unfold asc
  rw [List.mem_filter, List.mem_range'_1]
  constructor
  · rintro ⟨⟨a, b⟩, c⟩
    exact ⟨⟨a, by omega⟩, c⟩
  · rintro ⟨⟨a, b⟩, c⟩
    exact ⟨⟨a, by omega⟩, c⟩
theorem asc_sorted (n : Nat) (S : Nat → Bool) : (asc n S).Pairwise (· < ·) := by
  unfold asc
  exact List.Pairwise.filter _ (List.pairwise_lt_range' (s := 1) (n := n))
theorem sorted_ext {l m : List Nat} (h1 : l.Pairwise (· < ·)) (h2 : m.Pairwise (· < ·)) (h : ∀ x, x ∈ l ↔ x ∈ m) : l = m := by
  induction l generalizing m with
  | nil =>
    cases m with
    | nil => rfl
    | cons b m => exact absurd ((h b).mpr List.mem_cons_self) (by simp)
  | cons a l ih =>
    cases m with
    | nil => exact absurd ((h a).mp List.mem_cons_self) (by simp)
    | cons b m =>
      have ha := List.pairwise_cons.mp h1
      have hb := List.pairwise_cons.mp h2
      have e : a = b := by
        rcases List.mem_cons.mp ((h a).mp List.mem_cons_self) with e | e
        · exact e
        · rcases List.mem_cons.mp ((h b).mpr List.mem_cons_self) with e' | e'
          · exact e'.symm
          · have := ha.1 b e'
            have := hb.1 a e
            omega
      subst e
      congr 1
      refine ih ha.2 hb.2 fun x => ⟨fun hx => ?_, fun hx => ?_⟩
      · rcases List.mem_cons.mp ((h x).mp (List.mem_cons_of_mem _ hx)) with e | e
        · have := ha.1 x hx
          omega
        · exact e
      · rcases List.mem_cons.mp ((h x).mpr (List.mem_cons_of_mem _ hx)) with e | e
        · have := hb.1 x hx
          omega
        · exact e
theorem asc_eq {n : Nat} {S : Nat → Bool} {l : List Nat} (h1 : l.Pairwise (· < ·)) (h : ∀ x, x ∈ l ↔ (1 ≤ x ∧ x ≤ n) ∧ S x = true) : asc n S = l :=
  sorted_ext (asc_sorted n S) h1 fun x => mem_asc.trans (h x).symm
theorem asc_congr {n : Nat} {S T : Nat → Bool} (h : ∀ o, 1 ≤ o → o ≤ n → S o = T o) : asc n S = asc n T :=
  asc_eq (asc_sorted n T) fun x => by
    rw [mem_asc]
    constructor
    · rintro ⟨a, b⟩
      exact ⟨a, by rw [h x a.1 a.2]; exact b⟩
    · rintro ⟨a, b⟩
      exact ⟨a, by rw [← h x a.1 a.2]; exact b⟩
theorem asc_succ (n : Nat) (S : Nat → Bool) : asc (n + 1) S = asc n S ++ (if S (n + 1) = true then [n + 1] else []) := by
  unfold asc
  rw [List.range'_concat, List.filter_append]
  congr 1
  have e : 1 + 1 * n = n + 1 := by omega
  rw [e]
  by_cases h : S (n + 1) = true
  · simp [h]
  · simp [h]
theorem asc_more {n m : Nat} {S : Nat → Bool} (h : ∀ o, S o = true → o ≤ n) (hm : n ≤ m) : asc m S = asc n S :=
  asc_eq (asc_sorted n S) fun x => by
    rw [mem_asc]
    constructor
    · rintro ⟨a, b⟩
      exact ⟨⟨a.1, by omega⟩, b⟩
    · rintro ⟨a, b⟩
      exact ⟨⟨a.1, h x b⟩, b⟩
theorem asc_nil {n : Nat} {S : Nat → Bool} (h : ∀ o, 1 ≤ o → o ≤ n → S o = false) : asc n S = [] := by
  refine asc_eq (by simp) fun x => ?_
  constructor
  · intro z; simp at z
  · rintro ⟨a, b⟩
    rw [h x a.1 a.2] at b
    cases b
theorem asc_len (n : Nat) (S : Nat → Bool) : (asc n S).length ≤ n := by
  unfold asc
  have := List.length_filter_le S (List.range' 1 n)
  rw [List.length_range'] at this
  exact this

/-! ### a book -/
structure Ab where
  n : Nat
  cells : Nat
  R : Nat → Nat → Bool
  B : Nat → Nat → Bool
  ws : Nat → List (Int × Int)
  sz : Nat → Int
  dem : Nat → List Nat
  qua : Nat → List Nat
/-- two rows of writes share a cell -/
def Shares (w v : List (Int × Int)) : Prop := ∃ p ∈ v, p.1 ∈ w.map (·.1)
def HitP (A : Ab) (w : List (Int × Int)) (N : Nat → Bool) (qua : List Nat) (o : Nat) : Prop :=
  o ∈ qua ∨ (∃ x, N x = true ∧ A.B x o = true) ∨ (Shares w (A.ws o) ∧ N o = false)
def BarP (A : Ab) (w : List (Int × Int)) (N : Nat → Bool) (qua : List Nat) (o : Nat) : Prop :=
  HitP A w N qua o ∨ ∃ q, A.R o q = true ∧ HitP A w N qua q
def NeedP (A : Ab) (dem : List Nat) (o : Nat) : Prop := o ∈ dem ∨ ∃ d ∈ dem, A.R d o = true
structure Wok (cells : Nat) (w : List (Int × Int)) : Prop where
  ne : w ≠ []
  rng : ∀ p ∈ w, 0 ≤ p.1 ∧ p.1 < cells
  nd : (w.map (·.1)).Nodup
  len : w.length ≤ 2
structure Row (A : Ab) (k : Nat) : Prop where
  d_lt : ∀ d ∈ A.dem k, 1 ≤ d ∧ d < k
  q_lt : ∀ d ∈ A.qua k, 1 ≤ d ∧ d < k
  dl : (A.dem k).length ≤ 100
  ql : (A.qua k).length ≤ 100
  r_eq : ∀ o, A.R k o = true ↔ NeedP A (A.dem k) o
  b_eq : ∀ o, 1 ≤ o → o < k → (A.B k o = true ↔ BarP A (A.ws k) (A.R k) (A.qua k) o)
  disj : ∀ o, A.R k o = true → A.B k o = false
  w : Wok A.cells (A.ws k)
  sz : 0 ≤ A.sz k
structure Good (A : Ab) : Prop where
  row : ∀ k, 1 ≤ k → k ≤ A.n → Row A k
  sym : ∀ k o, A.B k o = A.B o k
  irr : ∀ k, A.B k k = false
  brng : ∀ k o, A.B k o = true → 1 ≤ k ∧ k ≤ A.n
  rrng : ∀ k o, A.R k o = true → 1 ≤ k ∧ k ≤ A.n
section
variable {A : Ab}
theorem Good.r_lt (G : Good A) : ∀ (k o : Nat), A.R k o = true → 1 ≤ o ∧ o < k := by
  intro k
  induction k using Nat.strongRecOn with
  | _ k ih =>
    intro o h
    obtain ⟨k1, k2⟩ := G.rrng k o h
    have r := G.row k k1 k2
    rcases (r.r_eq o).mp h with hd | ⟨d, hd, ho⟩
    · exact r.d_lt o hd
    · have a := r.d_lt d hd
      have b := ih d a.2 o ho
      exact ⟨b.1, by omega⟩
theorem Good.r_trans (G : Good A) : ∀ (k o q : Nat), A.R k o = true → A.R o q = true → A.R k q = true := by
  intro k
  induction k using Nat.strongRecOn with
  | _ k ih =>
    intro o q h h'
    obtain ⟨k1, k2⟩ := G.rrng k o h
    have r := G.row k k1 k2
    rcases (r.r_eq o).mp h with hd | ⟨d, hd, ho⟩
    · exact (r.r_eq q).mpr (.inr ⟨o, hd, h'⟩)
    · exact (r.r_eq q).mpr (.inr ⟨d, hd, ih d (r.d_lt d hd).2 o q ho h'⟩)
theorem Good.up (G : Good A) {x y z : Nat} (hb : A.B x y = true) (hr : A.R z x = true) : A.B z y = true := by
  obtain ⟨z1, z2⟩ := G.rrng z x hr
  have hx := G.r_lt z x hr
  have rz := G.row z z1 z2
  have hy := G.brng y x (by rw [G.sym]; exact hb)
  rcases Nat.lt_trichotomy y z with h | h | h
  · exact (rz.b_eq y hy.1 h).mpr (.inl (.inr (.inl ⟨x, hr, hb⟩)))
  · subst h
    rw [G.sym] at hb
    rw [rz.disj x hr] at hb
    cases hb
  · have ry := G.row y hy.1 hy.2
    rw [G.sym] at hb ⊢
    refine (ry.b_eq z z1 h).mpr ?_
    rcases (ry.b_eq x hx.1 (by omega)).mp hb with q | ⟨q, q1, q2⟩
    · exact .inr ⟨x, hr, q⟩
    · exact .inr ⟨q, G.r_trans z x q hr q1, q2⟩
/-- what a patch requires holds no two that conflict -/
theorem Good.cf (G : Good A) {k x y : Nat} (hx : A.R k x = true) (hy : A.R k y = true) : A.B x y = false := by
  cases h : A.B x y with
  | false => rfl
  | true =>
    have q := G.up h hx
    obtain ⟨k1, k2⟩ := G.rrng k x hx
    rw [(G.row k k1 k2).disj y hy] at q
    cases q
theorem Good.bx (G : Good A) {k o : Nat} (h : A.R k o = true) : A.B k o = false := by
  obtain ⟨k1, k2⟩ := G.rrng k o h
  exact (G.row k k1 k2).disj o h
end

/-! ### versions -/
def fits (A : Ab) (v : List Nat) (k : Nat) : Bool := (asc A.n (A.R k)).all (fun o => v.contains o) && (asc A.n (A.B k)).all (fun o => !v.contains o)
def allV (A : Ab) : Nat → List (List Nat)
  | 0 => [[]]
  | k + 1 => allV A k ++ ((allV A k).filter fun v => fits A v (k + 1)).map fun v => v ++ [k + 1]
structure IsVer (A : Ab) (S : Nat → Bool) : Prop where
  clo : ∀ k o, S k = true → A.R k o = true → S o = true
  cf : ∀ k o, S k = true → S o = true → A.B k o = false
section
variable {A : Ab}
theorem fits_iff (G : Good A) {v : List Nat} {k : Nat} : fits A v k = true ↔ (∀ o, A.R k o = true → o ∈ v) ∧ ∀ o, A.B k o = true → o ∉ v := by
  unfold fits
  rw [Bool.and_eq_true, List.all_eq_true, List.all_eq_true]
  constructor
  · rintro ⟨a, b⟩
    refine ⟨fun o h => ?_, fun o h => ?_⟩
    · have q := G.r_lt k o h
      have q2 := G.rrng k o h
      simpa using a o (mem_asc.mpr ⟨⟨q.1, by omega⟩, h⟩)
    · have q := G.brng o k (by rw [G.sym]; exact h)
      simpa using b o (mem_asc.mpr ⟨q, h⟩)
  · rintro ⟨a, b⟩
    refine ⟨fun o h => ?_, fun o h => ?_⟩
    · simpa using a o (mem_asc.mp h).2
    · simpa using b o (mem_asc.mp h).2
theorem allV_in (A : Ab) : ∀ (k : Nat) (v : List Nat), v ∈ allV A k → (∀ x ∈ v, 1 ≤ x ∧ x ≤ k) ∧ v.Pairwise (· < ·)
  | 0, v, h => by
    have e : v = [] := by simpa [allV] using h
    subst e
    exact ⟨fun x hx => by simp at hx, by simp⟩
  | k + 1, v, h => by
    rcases List.mem_append.mp h with h | h
    · obtain ⟨a, b⟩ := allV_in A k v h
      exact ⟨fun x hx => ⟨(a x hx).1, by have := (a x hx).2; omega⟩, b⟩
    · obtain ⟨u, hu, e⟩ := List.mem_map.mp h
      obtain ⟨hu, _⟩ := List.mem_filter.mp hu
      obtain ⟨a, b⟩ := allV_in A k u hu
      subst e
      refine ⟨fun x hx => ?_, ?_⟩
      · rcases List.mem_append.mp hx with hx | hx
        · exact ⟨(a x hx).1, by have := (a x hx).2; omega⟩
        · have : x = k + 1 := by simpa using hx
          omega
      · rw [List.pairwise_append]
        refine ⟨b, by simp, fun x hx y hy => ?_⟩
        have : y = k + 1 := by simpa using hy
        have := (a x hx).2
        omega
theorem allV_nodup (A : Ab) : ∀ k : Nat, (allV A k).Nodup
  | 0 => by simp [allV]
  | k + 1 => by
    show (allV A k ++ _).Nodup
    rw [List.nodup_append]
    refine ⟨allV_nodup A k, ?_, fun x hx y hy e => ?_⟩
    · have h : ((allV A k).filter fun v => fits A v (k + 1)).Nodup := (allV_nodup A k).sublist List.filter_sublist
      have inj : ∀ l : List (List Nat), l.Nodup → (l.map fun v => v ++ [k + 1]).Nodup := by
        intro l
        induction l with
        | nil => intro _; simp
        | cons a l ih =>
          intro hl
          obtain ⟨h1, h2⟩ := List.nodup_cons.mp hl
          rw [List.map_cons, List.nodup_cons]
          refine ⟨fun hm => ?_, ih h2⟩
          obtain ⟨b, hb, e⟩ := List.mem_map.mp hm
          have : b = a := List.append_cancel_right e
          rw [this] at hb
          exact h1 hb
      exact inj _ h
    · obtain ⟨u, hu, e'⟩ := List.mem_map.mp hy
      have hm : k + 1 ∈ x := by rw [e, ← e']; simp
      have := ((allV_in A k x hx).1 _ hm).2
      omega
theorem ver_mem (G : Good A) {S : Nat → Bool} (V : IsVer A S) : ∀ k, k ≤ A.n → asc k S ∈ allV A k
  | 0, _ => by simp [allV, asc]
  | k + 1, hk => by
    have ih := ver_mem G V k (by omega)
    rw [asc_succ]
    show _ ∈ allV A k ++ _
    by_cases h : S (k + 1) = true
    · rw [if_pos h]
      refine List.mem_append_right _ (List.mem_map.mpr ⟨asc k S, List.mem_filter.mpr ⟨ih, ?_⟩, rfl⟩)
      refine (fits_iff G).mpr ⟨fun o ho => ?_, fun o ho hm => ?_⟩
      · have q := G.r_lt _ _ ho
        exact mem_asc.mpr ⟨⟨q.1, by omega⟩, V.clo _ _ h ho⟩
      · have := V.cf _ _ h (mem_asc.mp hm).2
        rw [ho] at this
        cases this
    · rw [if_neg h, List.append_nil]
      exact List.mem_append_left _ ih
/-- what a patch requires is a version -/
theorem need_ver (G : Good A) (k : Nat) : IsVer A (A.R k) := ⟨fun x o h h' => G.r_trans k x o h h', fun x o h h' => G.cf h h'⟩
theorem need_mem (G : Good A) {k : Nat} (hk : k + 1 ≤ A.n) : asc A.n (A.R (k + 1)) ∈ allV A k ∧ fits A (asc A.n (A.R (k + 1))) (k + 1) = true := by
  have e : asc A.n (A.R (k + 1)) = asc k (A.R (k + 1)) := asc_more (fun o h => by have := (G.r_lt _ _ h).2; omega) (by omega)
  refine ⟨by rw [e]; exact ver_mem G (need_ver G (k + 1)) k (by omega), (fits_iff G).mpr ⟨fun o h => ?_, fun o h hm => ?_⟩⟩
  · have q := G.r_lt _ _ h
    exact mem_asc.mpr ⟨⟨q.1, by omega⟩, h⟩
  · have := G.bx (mem_asc.mp hm).2
    rw [h] at this
    cases this

/-! ### trees -/
def Indep (A : Ab) (a b : Nat) : Prop := 1 ≤ a ∧ a < b ∧ b ≤ A.n ∧ A.R b a = false ∧ A.B b a = false
def Tree (A : Ab) : Prop := ∀ a b, ¬ Indep A a b
theorem Tree.rel (T : Tree A) {a b : Nat} (h1 : 1 ≤ a) (h2 : a < b) (h3 : b ≤ A.n) : A.R b a = true ∨ A.B b a = true := by
  cases hr : A.R b a with
  | true => exact .inl rfl
  | false =>
    cases hb : A.B b a with
    | true => exact .inr rfl
    | false => exact absurd ⟨h1, h2, h3, hr, hb⟩ (T a b)
def due (A : Ab) (k : Nat) : List (List Nat) := [] :: (List.range' 1 k).map fun j => asc A.n (A.R j) ++ [j]
theorem filter_one {α : Type} {p : α → Bool} {u : α} : ∀ {l : List α}, l.Nodup → u ∈ l → (∀ v ∈ l, p v = true ↔ v = u) → l.filter p = [u]
  | [], _, h, _ => by simp at h
  | a :: l, nd, h, hp => by
    obtain ⟨n1, n2⟩ := List.nodup_cons.mp nd
    rcases List.mem_cons.mp h with e | e
    · subst e
      rw [List.filter_cons, if_pos ((hp u List.mem_cons_self).mpr rfl)]
      have : l.filter p = [] := by
        rw [List.filter_eq_nil_iff]
        intro v hv hq
        have := (hp v (List.mem_cons_of_mem _ hv)).mp hq
        subst this
        exact n1 hv
      rw [this]
    · have ne : ¬ p a = true := fun q => by
        have := (hp a List.mem_cons_self).mp q
        subst this
        exact n1 e
      rw [List.filter_cons, if_neg ne]
      exact filter_one n2 e fun v hv => hp v (List.mem_cons_of_mem _ hv)
theorem allV_tree (G : Good A) (T : Tree A) : ∀ k, k ≤ A.n → allV A k = due A k
  | 0, _ => by simp [allV, due]
  | k + 1, hk => by
    have ih := allV_tree G T k (by omega)
    have nm := need_mem G hk
    have e : ((allV A k).filter fun v => fits A v (k + 1)) = [asc A.n (A.R (k + 1))] := by
      refine filter_one (allV_nodup A k) nm.1 fun v hv => ⟨fun hf => ?_, fun e => by rw [e]; exact nm.2⟩
      obtain ⟨a, b⟩ := allV_in A k v hv
      obtain ⟨f1, f2⟩ := (fits_iff G).mp hf
      refine (asc_eq b fun x => ⟨fun hx => ?_, fun hx => f1 x hx.2⟩).symm
      have q := a x hx
      refine ⟨⟨q.1, by omega⟩, ?_⟩
      rcases T.rel q.1 (show x < k + 1 by omega) hk with r | r
      · exact r
      · exact absurd hx (f2 x r)
    show allV A k ++ _ = due A (k + 1)
    rw [e, ih]
    unfold due
    rw [List.range'_concat, List.map_append]
    have e2 : 1 + 1 * k = k + 1 := by omega
    rw [e2]
    rfl
theorem len_le (G : Good A) : ∀ k, k ≤ A.n → k + 1 ≤ (allV A k).length
  | 0, _ => by simp [allV]
  | k + 1, hk => by
    have ih := len_le G k (by omega)
    have nm := need_mem G hk
    have h1 : 0 < ((allV A k).filter fun v => fits A v (k + 1)).length := List.length_pos_of_mem (List.mem_filter.mpr nm)
    show _ ≤ (allV A k ++ _).length
    rw [List.length_append, List.length_map]
    omega
theorem two_le {α : Type} {l : List α} {x y : α} (hx : x ∈ l) (hy : y ∈ l) (ne : x ≠ y) : 2 ≤ l.length := by
  match l, hx, hy with
  | [], hx, _ => simp at hx
  | [a], hx, hy =>
    have e1 : x = a := by simpa using hx
    have e2 : y = a := by simpa using hy
    exact absurd (e1.trans e2.symm) ne
  | a :: b :: r, _, _ => simp
theorem indep_ver (G : Good A) {a b : Nat} (h : Indep A a b) : IsVer A (fun x => A.R b x || (A.R a x || decide (x = a))) := by
  obtain ⟨h1, h2, h3, h4, h5⟩ := h
  have key : ∀ x y, A.R b x = true → (A.R a y = true ∨ y = a) → A.B x y = false := fun x y hx hy => by
    cases q : A.B x y with
    | false => rfl
    | true =>
      have q1 := G.up q hx
      rcases hy with hy | hy
      · rw [G.sym] at q1
        have q2 := G.up q1 hy
        rw [G.sym, h5] at q2
        cases q2
      · subst hy
        rw [h5] at q1
        cases q1
  have own : ∀ x y, (A.R a x = true ∨ x = a) → (A.R a y = true ∨ y = a) → A.B x y = false := fun x y hx hy => by
    rcases hx with hx | hx
    · rcases hy with hy | hy
      · exact G.cf hx hy
      · subst hy
        rw [G.sym]
        exact G.bx hx
    · subst hx
      rcases hy with hy | hy
      · exact G.bx hy
      · subst hy
        exact G.irr _
  have split : ∀ x, (A.R b x || (A.R a x || decide (x = a))) = true → A.R b x = true ∨ (A.R a x = true ∨ x = a) := fun x hx => by
    simpa [Bool.or_eq_true] using hx
  have join : ∀ x, A.R b x = true ∨ (A.R a x = true ∨ x = a) → (A.R b x || (A.R a x || decide (x = a))) = true := fun x hx => by
    simpa [Bool.or_eq_true] using hx
  refine ⟨fun k o hk ho => join o ?_, fun k o hk ho => ?_⟩
  · rcases split k hk with q | q | q
    · exact .inl (G.r_trans b k o q ho)
    · exact .inr (.inl (G.r_trans a k o q ho))
    · subst q
      exact .inr (.inl ho)
  · rcases split k hk with q | q
    · rcases split o ho with r | r
      · exact G.cf q r
      · exact key k o q r
    · rcases split o ho with r | r
      · rw [G.sym]
        exact key o k r q
      · exact own k o q r
theorem indep_fits (G : Good A) {a b : Nat} (h : Indep A a b) (x : Nat) (hx : A.B b x = true) : (A.R b x || (A.R a x || decide (x = a))) = false := by
  obtain ⟨h1, h2, h3, h4, h5⟩ := h
  have n1 : A.R b x = false := by
    cases q : A.R b x with
    | false => rfl
    | true => rw [G.bx q] at hx; cases hx
  have n2 : A.R a x = false := by
    cases q : A.R a x with
    | false => rfl
    | true =>
      rw [G.sym] at hx
      have := G.up hx q
      rw [G.sym, h5] at this
      cases this
  have n3 : x ≠ a := fun e => by
    subst e
    rw [h5] at hx
    cases hx
  simp [n1, n2, n3]
theorem len_more (G : Good A) {a b : Nat} (h : Indep A a b) : ∀ k, b ≤ k → k ≤ A.n → k + 2 ≤ (allV A k).length
  | 0, hb, _ => by
    obtain ⟨h1, h2, _⟩ := h
    omega
  | k + 1, hb, hk => by
    have nm := need_mem G hk
    show _ ≤ (allV A k ++ _).length
    rw [List.length_append, List.length_map]
    by_cases e : b = k + 1
    · have ih := len_le G k (by omega)
      have V := indep_ver G h
      have h' := h
      obtain ⟨h1, h2, h3, h4, h5⟩ := h'
      have m2 : asc k (fun x => A.R b x || (A.R a x || decide (x = a))) ∈ ((allV A k).filter fun v => fits A v (k + 1)) := by
        refine List.mem_filter.mpr ⟨ver_mem G V k (by omega), (fits_iff G).mpr ⟨fun o ho => ?_, fun o ho hm => ?_⟩⟩
        · rw [← e] at ho
          have q := G.r_lt _ _ ho
          exact mem_asc.mpr ⟨⟨q.1, by omega⟩, by simp [ho]⟩
        · rw [← e] at ho
          have := indep_fits G h o ho
          rw [(mem_asc.mp hm).2] at this
          cases this
      have ne : asc A.n (A.R (k + 1)) ≠ asc k (fun x => A.R b x || (A.R a x || decide (x = a))) := fun q => by
        have ha : a ∈ asc k (fun x => A.R b x || (A.R a x || decide (x = a))) := mem_asc.mpr ⟨⟨h1, by omega⟩, by simp⟩
        rw [← q] at ha
        have := (mem_asc.mp ha).2
        rw [← e, h4] at this
        cases this
      have := two_le (List.mem_filter.mpr nm) m2 ne
      omega
    · have ih := len_more G h k (by omega) (by omega)
      have h1 : 0 < ((allV A k).filter fun v => fits A v (k + 1)).length := List.length_pos_of_mem (List.mem_filter.mpr nm)
      omega
/-- a tree exactly if it has one version more than patches -/
theorem tree_iff (G : Good A) : Tree A ↔ (allV A A.n).length = A.n + 1 := by
  constructor
  · intro T
    rw [allV_tree G T A.n (Nat.le_refl _)]
    unfold due
    simp
  · intro e a b h
    have := len_more G h A.n h.2.2.1 (Nat.le_refl _)
    omega
/-- in a tree: all that a patch requires is its greatest one with all that that one requires -/
theorem tree_chain (G : Good A) (T : Tree A) {k m : Nat} {pre : List Nat} (e : asc A.n (A.R k) = pre ++ [m]) : pre = asc A.n (A.R m) ∧ A.R k m = true ∧ 1 ≤ m ∧ m < k := by
  have hm : m ∈ asc A.n (A.R k) := by rw [e]; simp
  have rm := (mem_asc.mp hm).2
  have lt := G.r_lt _ _ rm
  have so := asc_sorted A.n (A.R k)
  rw [e, List.pairwise_append] at so
  obtain ⟨s1, _, s3⟩ := so
  refine ⟨(asc_eq s1 fun x => ⟨fun hx => ?_, fun hx => ?_⟩).symm, rm, lt⟩
  · have hk : x ∈ asc A.n (A.R k) := by rw [e]; exact List.mem_append_left _ hx
    obtain ⟨q1, q2⟩ := mem_asc.mp hk
    have l := s3 x hx m (by simp)
    refine ⟨q1, ?_⟩
    rcases T.rel q1.1 l (mem_asc.mp hm).1.2 with r | r
    · exact r
    · rw [G.cf rm q2] at r
      cases r
  · have r := G.r_trans _ _ _ rm hx.2
    have hk : x ∈ asc A.n (A.R k) := mem_asc.mpr ⟨hx.1, r⟩
    rw [e] at hk
    rcases List.mem_append.mp hk with h | h
    · exact h
    · have e' : x = m := by simpa using h
      have := (G.r_lt _ _ hx.2).2
      omega
end

/-! ### the least independent pair -/
def LeastP (A : Ab) (k : Nat) : Option (Nat × Nat) → Prop
  | none => ∀ a b, b ≤ k → ¬ Indep A a b
  | some p => Indep A p.1 p.2 ∧ p.2 ≤ k ∧ ∀ a b, b ≤ k → Indep A a b → p.1 < a ∨ (p.1 = a ∧ p.2 ≤ b)
theorem LeastP.uniq {A : Ab} {k : Nat} {o o' : Option (Nat × Nat)} (h : LeastP A k o) (h' : LeastP A k o') : o = o' := by
  cases o with
  | none =>
    cases o' with
    | none => rfl
    | some p => exact absurd h'.1 (h _ _ h'.2.1)
  | some p =>
    cases o' with
    | none => exact absurd h.1 (h' _ _ h.2.1)
    | some p' =>
      have a := h.2.2 _ _ h'.2.1 h'.1
      have b := h'.2.2 _ _ h.2.1 h.1
      have e1 : p.1 = p'.1 := by omega
      have e2 : p.2 = p'.2 := by omega
      rw [show p = p' from Prod.ext e1 e2]
theorem tree_none {A : Ab} : Tree A ↔ LeastP A A.n none := ⟨fun T a b _ => T a b, fun h a b q => h a b q.2.2.1 q⟩

/-! ### counting the versions another way -/
/-- how many versions stand over v with patches of the last d -/
def ext (A : Ab) : Nat → List Nat → Nat
  | 0, _ => 1
  | d + 1, v => ext A d v + (if fits A v (A.n - d) = true then ext A d (v ++ [A.n - d]) else 0)
theorem sum_append (l m : List Nat) : (l ++ m).sum = l.sum + m.sum := by
  induction l with
  | nil => simp
  | cons a l ih => simp [ih]; omega
theorem ext_all (A : Ab) : ∀ k, k ≤ A.n → ((allV A k).map (ext A (A.n - k))).sum = ext A A.n []
  | 0, _ => by simp [allV]
  | k + 1, hk => by
    have ih := ext_all A k (by omega)
    obtain ⟨d, hd⟩ : ∃ d, A.n - k = d + 1 := ⟨A.n - k - 1, by omega⟩
    have hd2 : A.n - (k + 1) = d := by omega
    have hk1 : A.n - d = k + 1 := by omega
    rw [hd] at ih
    rw [hd2]
    show ((allV A k ++ _).map _).sum = _
    rw [List.map_append, sum_append, List.map_map, ← ih]
    generalize allV A k = l
    induction l with
    | nil => rfl
    | cons v l ih2 =>
      have e : ext A (d + 1) v = ext A d v + (if fits A v (A.n - d) = true then ext A d (v ++ [A.n - d]) else 0) := rfl
      rw [List.map_cons, List.map_cons, List.sum_cons, List.sum_cons, e, ← ih2, List.filter_cons, hk1]
      by_cases h : fits A v (k + 1) = true
      · rw [if_pos h, if_pos h, List.map_cons, List.sum_cons]
        simp only [Function.comp]
        omega
      · rw [if_neg h, if_neg h]
        omega
theorem all_len (A : Ab) : (allV A A.n).length = ext A A.n [] := by
  rw [← ext_all A A.n (Nat.le_refl _), Nat.sub_self]
  induction allV A A.n with
  | nil => rfl
  | cons v l ih => simp [ext, ih]; omega
def lastOr (v : List Nat) : Nat := v.getLast?.getD 0
/-- how many versions begin with v -/
def cnt (A : Ab) (v : List Nat) : Nat := ext A (A.n - lastOr v) v
def kidsTo (A : Ab) (v : List Nat) (j m : Nat) : List (List Nat) := ((List.range' (j + 1) m).filter fun k => fits A v k).map fun k => v ++ [k]
def kids (A : Ab) (v : List Nat) : List (List Nat) := kidsTo A v (lastOr v) (A.n - lastOr v)
theorem lastOr_snoc (v : List Nat) (k : Nat) : lastOr (v ++ [k]) = k := by simp [lastOr]
theorem cnt_kids (A : Ab) (v : List Nat) : cnt A v = 1 + ((kids A v).map (cnt A)).sum := by
  have key : ∀ d, d ≤ A.n → ext A d v = 1 + ((kidsTo A v (A.n - d) d).map (cnt A)).sum := by
    intro d
    induction d with
    | zero => intro _; simp [ext, kidsTo]
    | succ d ih =>
      intro hd
      have i := ih (by omega)
      have e1 : A.n - (d + 1) + 1 = A.n - d := by omega
      have e : kidsTo A v (A.n - (d + 1)) (d + 1) = (if fits A v (A.n - d) = true then [v ++ [A.n - d]] else []) ++ kidsTo A v (A.n - d) d := by
        unfold kidsTo
        rw [e1, List.range'_succ, List.filter_cons]
        by_cases h : fits A v (A.n - d) = true
        · rw [if_pos h, if_pos h]
          rfl
        · rw [if_neg h, if_neg h]
          rfl
      show ext A d v + _ = _
      rw [e, i, List.map_append, sum_append]
      by_cases h : fits A v (A.n - d) = true
      · rw [if_pos h, if_pos h]
        have : cnt A (v ++ [A.n - d]) = ext A d (v ++ [A.n - d]) := by
          unfold cnt
          rw [lastOr_snoc, show A.n - (A.n - d) = d by omega]
        simp [this]
        omega
      · rw [if_neg h, if_neg h]
        simp
  unfold cnt kids
  by_cases h : lastOr v ≤ A.n
  · have := key (A.n - lastOr v) (by omega)
    rw [show A.n - (A.n - lastOr v) = lastOr v by omega] at this
    exact this
  · rw [show A.n - lastOr v = 0 by omega]
    simp [ext, kidsTo]
theorem cnt_pos (A : Ab) (v : List Nat) : 1 ≤ cnt A v := by
  rw [cnt_kids]
  omega
theorem cnt_nil (A : Ab) : cnt A [] = (allV A A.n).length := by
  rw [all_len]
  rfl
theorem allV_pow (A : Ab) : ∀ k, (allV A k).length ≤ 2 ^ k
  | 0 => by simp [allV]
  | k + 1 => by
    have ih := allV_pow A k
    show (allV A k ++ _).length ≤ _
    rw [List.length_append, List.length_map, Nat.pow_succ]
    have := List.length_filter_le (fun v => fits A v (k + 1)) (allV A k)
    omega
end K27
set_option Elab.async false
set_option linter.all false
set_option maxRecDepth 100000
set_option maxHeartbeats 4000000
/-! K27Math2: one more patch. -/
namespace K27
def push (A : Ab) (w : List (Int × Int)) (s : Int) (N Bf : Nat → Bool) (dem qua : List Nat) : Ab where
  n := A.n + 1
  cells := A.cells
  R := fun k o => if k = A.n + 1 then N o else A.R k o
  B := fun k o => if k = A.n + 1 then Bf o else if o = A.n + 1 then Bf k else A.B k o
  ws := fun k => if k = A.n + 1 then w else A.ws k
  sz := fun k => if k = A.n + 1 then s else A.sz k
  dem := fun k => if k = A.n + 1 then dem else A.dem k
  qua := fun k => if k = A.n + 1 then qua else A.qua k
structure NewOk (A : Ab) (w : List (Int × Int)) (s : Int) (N Bf : Nat → Bool) (dem qua : List Nat) : Prop where
  hN : ∀ o, N o = true ↔ NeedP A dem o
  hB : ∀ o, Bf o = true ↔ (1 ≤ o ∧ o ≤ A.n) ∧ BarP A w N qua o
  d_le : ∀ d ∈ dem, 1 ≤ d ∧ d ≤ A.n
  q_le : ∀ d ∈ qua, 1 ≤ d ∧ d ≤ A.n
  dl : dem.length ≤ 100
  ql : qua.length ≤ 100
  disj : ∀ o, N o = true → Bf o = false
  w : Wok A.cells w
  sz : 0 ≤ s
/-- A' has one patch more than A and is A otherwise -/
structure Agree (A A' : Ab) : Prop where
  n : A'.n = A.n + 1
  cells : A'.cells = A.cells
  R : ∀ k o, k ≤ A.n → A'.R k o = A.R k o
  B : ∀ k o, k ≤ A.n → o ≤ A.n → A'.B k o = A.B k o
  ws : ∀ k, k ≤ A.n → A'.ws k = A.ws k
  sz : ∀ k, k ≤ A.n → A'.sz k = A.sz k
  dem : ∀ k, k ≤ A.n → A'.dem k = A.dem k
  qua : ∀ k, k ≤ A.n → A'.qua k = A.qua k
section
variable {A : Ab} {w : List (Int × Int)} {s : Int} {N Bf : Nat → Bool} {dem qua : List Nat}
theorem NewOk.n_le (G : Good A) (h : NewOk A w s N Bf dem qua) {o : Nat} (hn : N o = true) : 1 ≤ o ∧ o ≤ A.n := by
  rcases (h.hN o).mp hn with q | ⟨d, hd, q⟩
  · exact h.d_le o q
  · have a := G.r_lt d o q
    have b := (h.d_le d hd).2
    exact ⟨a.1, by omega⟩
theorem push_agree : Agree A (push A w s N Bf dem qua) where
  n := rfl
  cells := rfl
  R := fun k o hk => if_neg (by omega)
  B := fun k o hk ho => by
    show (if k = A.n + 1 then Bf o else if o = A.n + 1 then Bf k else A.B k o) = _
    rw [if_neg (by omega), if_neg (by omega)]
  ws := fun k hk => if_neg (by omega)
  sz := fun k hk => if_neg (by omega)
  dem := fun k hk => if_neg (by omega)
  qua := fun k hk => if_neg (by omega)
theorem push_R : (push A w s N Bf dem qua).R (A.n + 1) = N := by
  funext o
  exact if_pos rfl
theorem push_B (o : Nat) : (push A w s N Bf dem qua).B (A.n + 1) o = Bf o := if_pos rfl
theorem push_ws : (push A w s N Bf dem qua).ws (A.n + 1) = w := if_pos rfl
theorem push_sz : (push A w s N Bf dem qua).sz (A.n + 1) = s := if_pos rfl
theorem push_dem : (push A w s N Bf dem qua).dem (A.n + 1) = dem := if_pos rfl
theorem push_qua : (push A w s N Bf dem qua).qua (A.n + 1) = qua := if_pos rfl
/-- what a row says, over another book that agrees below it -/
theorem barP_congr {A A' : Ab} {w : List (Int × Int)} {N : Nat → Bool} {qua : List Nat} {k : Nat} (hq : ∀ d ∈ qua, d < k) (hN : ∀ x, N x = true → x < k) (R : ∀ x o, x < k → A'.R x o = A.R x o) (B : ∀ x o, x < k → o < k → A'.B x o = A.B x o) (ws : ∀ x, x < k → A'.ws x = A.ws x)
    (rl : ∀ x o, A.R x o = true → o < x) {o : Nat} (ho : o < k) : BarP A' w N qua o ↔ BarP A w N qua o := by
  have hit : ∀ o, o < k → (HitP A' w N qua o ↔ HitP A w N qua o) := fun o ho => by
    unfold HitP
    rw [ws o ho]
    constructor
    · rintro (a | ⟨x, hx, hb⟩ | a)
      · exact .inl a
      · exact .inr (.inl ⟨x, hx, by rw [← B x o (hN x hx) ho]; exact hb⟩)
      · exact .inr (.inr a)
    · rintro (a | ⟨x, hx, hb⟩ | a)
      · exact .inl a
      · exact .inr (.inl ⟨x, hx, by rw [B x o (hN x hx) ho]; exact hb⟩)
      · exact .inr (.inr a)
  unfold BarP
  rw [hit o ho]
  constructor
  · rintro (a | ⟨q, hq, h⟩)
    · exact .inl a
    · rw [R o q ho] at hq
      exact .inr ⟨q, hq, (hit q (by have := rl o q hq; omega)).mp h⟩
  · rintro (a | ⟨q, hq, h⟩)
    · exact .inl a
    · exact .inr ⟨q, by rw [R o q ho]; exact hq, (hit q (by have := rl o q hq; omega)).mpr h⟩
theorem needP_congr {A A' : Ab} {dem : List Nat} {k : Nat} (hd : ∀ d ∈ dem, d < k) (R : ∀ x o, x < k → A'.R x o = A.R x o) (o : Nat) : NeedP A' dem o ↔ NeedP A dem o := by
  unfold NeedP
  constructor
  · rintro (a | ⟨d, h, q⟩)
    · exact .inl a
    · exact .inr ⟨d, h, by rw [← R d o (hd d h)]; exact q⟩
  · rintro (a | ⟨d, h, q⟩)
    · exact .inl a
    · exact .inr ⟨d, h, by rw [R d o (hd d h)]; exact q⟩
theorem Good.push (G : Good A) (h : NewOk A w s N Bf dem qua) : Good (push A w s N Bf dem qua) := by
  have ag : Agree A (K27.push A w s N Bf dem qua) := push_agree
  have nn : ∀ {o : Nat}, N o = true → 1 ≤ o ∧ o ≤ A.n := fun {o} q => h.n_le G q
  have rl : ∀ x o, A.R x o = true → o < x := fun x o q => (G.r_lt x o q).2
  refine ⟨fun k k1 k2 => ?_, fun k o => ?_, fun k => ?_, fun k o => ?_, fun k o => ?_⟩
  · have k2' : k ≤ A.n + 1 := k2
    by_cases e : k = A.n + 1
    · subst e
      refine ⟨?_, ?_, ?_, ?_, fun o => ?_, fun o o1 o2 => ?_, fun o => ?_, ?_, ?_⟩
      · rw [push_dem]; exact fun d hd => ⟨(h.d_le d hd).1, by have := (h.d_le d hd).2; omega⟩
      · rw [push_qua]; exact fun d hd => ⟨(h.q_le d hd).1, by have := (h.q_le d hd).2; omega⟩
      · rw [push_dem]; exact h.dl
      · rw [push_qua]; exact h.ql
      · rw [push_R, push_dem, h.hN]
        exact (needP_congr (k := A.n + 1) (fun d hd => by have := (h.d_le d hd).2; omega) (fun x o hx => ag.R x o (by omega)) o).symm
      · rw [push_B, push_R, push_qua, push_ws, h.hB]
        have c := barP_congr (A := A) (A' := K27.push A w s N Bf dem qua) (w := w) (N := N) (qua := qua) (k := A.n + 1) (fun d hd => by have := (h.q_le d hd).2; omega) (fun x hx => by have := (nn hx).2; omega) (fun x o hx => ag.R x o (by omega)) (fun x o hx ho => ag.B x o (by omega) (by omega))
          (fun x hx => ag.ws x (by omega)) rl o2
        exact ⟨fun q => c.mpr q.2, fun q => ⟨⟨o1, by omega⟩, c.mp q⟩⟩
      · rw [push_R, push_B]; exact h.disj o
      · rw [push_ws]; exact h.w
      · rw [push_sz]; exact h.sz
    · have hk : k ≤ A.n := by omega
      have r := G.row k k1 hk
      refine ⟨?_, ?_, ?_, ?_, fun o => ?_, fun o o1 o2 => ?_, fun o => ?_, ?_, ?_⟩
      · rw [ag.dem k hk]; exact r.d_lt
      · rw [ag.qua k hk]; exact r.q_lt
      · rw [ag.dem k hk]; exact r.dl
      · rw [ag.qua k hk]; exact r.ql
      · rw [ag.R k o hk, ag.dem k hk, r.r_eq]
        exact (needP_congr (k := k) (fun d hd => (r.d_lt d hd).2) (fun x o hx => ag.R x o (by omega)) o).symm
      · have eR : (K27.push A w s N Bf dem qua).R k = A.R k := funext fun o => ag.R k o hk
        rw [ag.B k o hk (by omega), eR, ag.qua k hk, ag.ws k hk, r.b_eq o o1 o2]
        exact (barP_congr (A := A) (A' := K27.push A w s N Bf dem qua) (k := k) (fun d hd => (r.q_lt d hd).2) (fun x hx => rl k x hx) (fun x o hx => ag.R x o (by omega)) (fun x o hx ho => ag.B x o (by omega) (by omega)) (fun x hx => ag.ws x (by omega)) rl o2).symm
      · intro q
        rw [ag.R k o hk] at q
        have := rl k o q
        rw [ag.B k o hk (by omega)]
        exact r.disj o q
      · rw [ag.ws k hk]; exact r.w
      · rw [ag.sz k hk]; exact r.sz
  · show (if k = A.n + 1 then Bf o else if o = A.n + 1 then Bf k else A.B k o) = (if o = A.n + 1 then Bf k else if k = A.n + 1 then Bf o else A.B o k)
    by_cases e1 : k = A.n + 1
    · by_cases e2 : o = A.n + 1
      · rw [if_pos e1, if_pos e2, e1, e2]
      · rw [if_pos e1, if_neg e2, if_pos e1]
    · by_cases e2 : o = A.n + 1
      · rw [if_neg e1, if_pos e2, if_pos e2]
      · rw [if_neg e1, if_neg e2, if_neg e2, if_neg e1]
        exact G.sym k o
  · show (if k = A.n + 1 then Bf k else if k = A.n + 1 then Bf k else A.B k k) = false
    by_cases e1 : k = A.n + 1
    · rw [if_pos e1]
      cases q : Bf k with
      | false => rfl
      | true =>
        have := ((h.hB k).mp q).1.2
        omega
    · rw [if_neg e1, if_neg e1]
      exact G.irr k
  · show (if k = A.n + 1 then Bf o else if o = A.n + 1 then Bf k else A.B k o) = true → 1 ≤ k ∧ k ≤ A.n + 1
    intro q
    by_cases e1 : k = A.n + 1
    · omega
    · rw [if_neg e1] at q
      by_cases e2 : o = A.n + 1
      · rw [if_pos e2] at q
        have := ((h.hB k).mp q).1
        omega
      · rw [if_neg e2] at q
        have := G.brng k o q
        omega
  · show (if k = A.n + 1 then N o else A.R k o) = true → 1 ≤ k ∧ k ≤ A.n + 1
    intro q
    by_cases e1 : k = A.n + 1
    · omega
    · rw [if_neg e1] at q
      have := G.rrng k o q
      omega
end
/-- the versions below the new patch are the old ones -/
theorem Agree.allV {A A' : Ab} (h : Agree A A') (G : Good A) (G' : Good A') : ∀ k, k ≤ A.n → allV A' k = allV A k
  | 0, _ => rfl
  | k + 1, hk => by
    have ih := h.allV G G' k (by omega)
    show K27.allV A' k ++ _ = K27.allV A k ++ _
    rw [ih]
    congr 2
    refine List.filter_congr fun v hv => ?_
    have hv' := (allV_in A k v hv).1
    have a := fits_iff (A := A) G (v := v) (k := k + 1)
    have b := fits_iff (A := A') G' (v := v) (k := k + 1)
    have e : (fits A' v (k + 1) = true) ↔ (fits A v (k + 1) = true) := by
      rw [a, b]
      constructor
      · rintro ⟨x, y⟩
        refine ⟨fun o ho => x o (by rw [h.R _ o hk]; exact ho), fun o ho => y o ?_⟩
        have := G.brng o (k + 1) (by rw [G.sym]; exact ho)
        rw [h.B _ o hk this.2]
        exact ho
      · rintro ⟨x, y⟩
        refine ⟨fun o ho => x o (by rw [← h.R _ o hk]; exact ho), fun o ho hm => y o ?_ hm⟩
        have := hv' o hm
        rw [← h.B _ o hk (by omega)]
        exact ho
    cases q1 : fits A' v (k + 1) with
    | true => rw [(e.mp q1)]
    | false =>
      cases q2 : fits A v (k + 1) with
      | false => rfl
      | true => rw [e.mpr q2] at q1; cases q1
theorem Agree.len {A A' : Ab} (h : Agree A A') (G : Good A) (G' : Good A') : (K27.allV A' A'.n).length ≤ 2 * (K27.allV A A.n).length := by
  rw [h.n]
  show (K27.allV A' A.n ++ _).length ≤ _
  rw [h.allV G G' A.n (Nat.le_refl _), List.length_append, List.length_map]
  have := List.length_filter_le (fun v => fits A' v (A.n + 1)) (K27.allV A A.n)
  omega
/-! ### the tree books -/
/-- all patches write cell 0 -/
def Zero (A : Ab) : Prop := ∀ k, 1 ≤ k → k ≤ A.n → (A.ws k).map (·.1) = [0]
theorem own_cf {A : Ab} (G : Good A) {a x y : Nat} (hx : A.R a x = true ∨ x = a) (hy : A.R a y = true ∨ y = a) : A.B x y = false := by
  rcases hx with hx | hx
  · rcases hy with hy | hy
    · exact G.cf hx hy
    · subst hy
      rw [G.sym]
      exact G.bx hx
  · subst hx
    rcases hy with hy | hy
    · exact G.bx hy
    · subst hy
      exact G.irr _
/-- one more patch that writes cell 0, requires one earlier patch or none, conflicts by no will: no trouble, and a tree stays a tree -/
theorem tree_new {A : Ab} (G : Good A) (T : Tree A) (Z : Zero A) {v s : Int} {N Bf : Nat → Bool} {dem : List Nat} (hd : dem = [] ∨ ∃ a, dem = [a] ∧ 1 ≤ a ∧ a ≤ A.n) (hN : ∀ o, N o = true ↔ NeedP A dem o) (hB : ∀ o, Bf o = true ↔ (1 ≤ o ∧ o ≤ A.n) ∧ BarP A [(0, v)] N [] o)
    (hc : 0 < A.cells) (hs : 0 ≤ s) : NewOk A [(0, v)] s N Bf dem [] ∧ Tree (push A [(0, v)] s N Bf dem []) ∧ Zero (push A [(0, v)] s N Bf dem []) := by
  have own : ∃ a, ∀ o, N o = true → A.R a o = true ∨ o = a := by
    rcases hd with e | ⟨a, e, _⟩
    · refine ⟨0, fun o ho => ?_⟩
      rcases (hN o).mp ho with q | ⟨d, q, _⟩
      · rw [e] at q; simp at q
      · rw [e] at q; simp at q
    · refine ⟨a, fun o ho => ?_⟩
      rcases (hN o).mp ho with q | ⟨d, q, r⟩
      · rw [e] at q
        exact .inr (by simpa using q)
      · rw [e] at q
        have : d = a := by simpa using q
        subst this
        exact .inl r
  obtain ⟨a, own⟩ := own
  have clo : ∀ o q, N o = true → A.R o q = true → N q = true := fun o q ho hq => by
    rcases (hN o).mp ho with r | ⟨d, r, r2⟩
    · exact (hN q).mpr (.inr ⟨o, r, hq⟩)
    · exact (hN q).mpr (.inr ⟨d, r, G.r_trans d o q r2 hq⟩)
  have nohit : ∀ o, N o = true → ¬ HitP A [(0, v)] N [] o := fun o ho hh => by
    rcases hh with q | ⟨x, hx, hb⟩ | ⟨_, q⟩
    · simp at q
    · rw [own_cf G (own x hx) (own o ho)] at hb
      cases hb
    · rw [ho] at q
      cases q
  have W : NewOk A [(0, v)] s N Bf dem [] := by
    refine ⟨hN, hB, fun d hm => ?_, fun d hm => by simp at hm, ?_, by simp, fun o ho => ?_, ⟨by simp, fun p hp => ?_, by simp, by simp⟩, hs⟩
    · rcases hd with e | ⟨b, e, b1, b2⟩
      · rw [e] at hm; simp at hm
      · rw [e] at hm
        have : d = b := by simpa using hm
        omega
    · rcases hd with e | ⟨b, e, b1, b2⟩
      · rw [e]; simp
      · rw [e]; simp
    · cases q : Bf o with
      | false => rfl
      | true =>
        rcases ((hB o).mp q).2 with r | ⟨x, r1, r2⟩
        · exact absurd r (nohit o ho)
        · exact absurd r2 (nohit x (clo o x ho r1))
    · have : p = (0, v) := by simpa using hp
      subst this
      exact ⟨Int.le_refl _, by show (0 : Int) < A.cells; omega⟩
  refine ⟨W, fun x y h => ?_, fun k k1 k2 => ?_⟩
  · obtain ⟨h1, h2, h3, h4, h5⟩ := h
    have h3' : y ≤ A.n + 1 := h3
    by_cases e : y = A.n + 1
    · subst e
      rw [push_R] at h4
      rw [push_B] at h5
      have : Bf x = true := (hB x).mpr ⟨⟨h1, by omega⟩, .inl (.inr (.inr ⟨by
        have z := Z x h1 (by omega)
        obtain ⟨p, hp, e0⟩ : ∃ p ∈ A.ws x, p.1 = 0 := by
          have hm : (0 : Int) ∈ (A.ws x).map (·.1) := by rw [z]; simp
          obtain ⟨p, hp, e⟩ := List.mem_map.mp hm
          exact ⟨p, hp, e⟩
        exact ⟨p, hp, by rw [e0]; simp⟩, h4⟩))⟩
      rw [h5] at this
      cases this
    · have ag : Agree A (push A [(0, v)] s N Bf dem []) := push_agree
      refine T x y ⟨h1, h2, by omega, ?_, ?_⟩
      · rw [← ag.R y x (by omega)]; exact h4
      · rw [← ag.B y x (by omega) (by omega)]; exact h5
  · have ag : Agree A (push A [(0, v)] s N Bf dem []) := push_agree
    have k2' : k ≤ A.n + 1 := k2
    by_cases e : k = A.n + 1
    · subst e
      rw [push_ws]
      rfl
    · rw [ag.ws k (by omega)]
      exact Z k k1 (by omega)
/-! ### no patch at all -/
def ab0 (cells : Nat) : Ab := ⟨0, cells, fun _ _ => false, fun _ _ => false, fun _ => [], fun _ => 0, fun _ => [], fun _ => []⟩
theorem good0 (cells : Nat) : Good (ab0 cells) := ⟨fun k h1 h2 => by have : k ≤ 0 := h2; omega, fun _ _ => rfl, fun _ => rfl, fun _ _ h => absurd (show false = true from h) Bool.false_ne_true, fun _ _ h => absurd (show false = true from h) Bool.false_ne_true⟩
theorem tree0 (cells : Nat) : Tree (ab0 cells) := fun a b h => by
  obtain ⟨h1, h2, h3, _⟩ := h
  have : b ≤ 0 := h3
  omega
theorem zero0 (cells : Nat) : Zero (ab0 cells) := fun k h1 h2 => by have : k ≤ 0 := h2; omega
end K27
set_option Elab.async false
set_option linter.all false
set_option maxRecDepth 100000
set_option maxHeartbeats 4000000
/-! K27Heap: what stands where: the source of draws, the model, the book. -/
namespace K27
open PySem PySem.Spec PyProof.Rows L2 Evl

abbrev nv (l : List Nat) : List V := l.map fun (n : Nat) => V.int (n : Int)
theorem nv_len (l : List Nat) : (nv l).length = l.length := List.length_map ..
theorem nv_flat (l : List Nat) : (nv l).all flatV = true := by
  rw [List.all_eq_true]
  intro x hx
  obtain ⟨n, _, rfl⟩ := List.mem_map.mp hx
  rfl
theorem nv_get {l : List Nat} {i : Nat} {x : V} (h : (nv l)[i]? = some x) : ∃ n, l[i]? = some n ∧ x = .int (n : Int) := by
  unfold nv at h
  rw [List.getElem?_map] at h
  cases e : l[i]? with
  | none => rw [e] at h; cases h
  | some n => rw [e] at h; exact ⟨n, rfl, (Option.some.inj h).symm⟩
theorem nv_inj {l m : List Nat} (h : nv l = nv m) : l = m := by
  induction l generalizing m with
  | nil => cases m with
    | nil => rfl
    | cons b m => cases h
  | cons a l ih => cases m with
    | nil => cases h
    | cons b m =>
      have h1 := (List.cons.inj h).1
      have h2 := (List.cons.inj h).2
      have h3 : (a : Int) = (b : Int) := by cases h1; rfl
      rw [ih h2, show a = b by omega]
theorem inV_nv (o : Nat) (l : List Nat) : inV (.int (o : Int)) (nv l) = decide (o ∈ l) := by
  unfold inV
  induction l with
  | nil => simp
  | cons a l ih =>
    show (eqV (.int (a : Int)) (.int (o : Int)) || ((nv l).any fun y => eqV y (.int (o : Int)))) = _
    rw [ih]
    have e : eqV (.int (a : Int)) (.int (o : Int)) = decide (o = a) := by
      show ((a : Int) == (o : Int)) = _
      by_cases h : o = a
      · subst h; simp
      · have : ¬ ((a : Int) = (o : Int)) := by omega
        simp [h, this]
    rw [e]
    by_cases h : o = a
    · simp [h]
    · simp [h]
theorem it2 {b : Bool} {A B : Prop} (h1 : b = true → A) (h2 : b = false → B) : if b = true then A else B := by
  cases b with
  | true => exact h1 rfl
  | false => exact h2 rfl
/-- changes only within U -/
def Sm (U : Addr → Prop) (H H' : Hp) : Prop := ∀ b o, H b = some o → ¬ U b → H' b = some o
theorem Sm.of {U : Addr → Prop} {H H' : Hp} (e : Ex H H') : Sm U H H' := fun b o h _ => e b o h
theorem Sm.refl (U : Addr → Prop) (H : Hp) : Sm U H H := fun _ _ h _ => h
theorem Sm.trans {U : Addr → Prop} {H H1 H2 : Hp} (a : Sm U H H1) (b : Sm U H1 H2) : Sm U H H2 := fun c o h u => b c o (a c o h u) u
theorem Sm.ex {U : Addr → Prop} {H H1 H2 : Hp} (a : Sm U H H1) (b : Ex H1 H2) : Sm U H H2 := fun c o h u => b c o (a c o h u)
theorem Sm.pre {U : Addr → Prop} {H H1 H2 : Hp} (a : Ex H H1) (b : Sm U H1 H2) : Sm U H H2 := fun c o h u => b c o (a c o h) u
theorem Sm.mono {U U' : Addr → Prop} {H H1 : Hp} (a : Sm U H H1) (h : ∀ b, U b → U' b) : Sm U' H H1 := fun c o e u => a c o e fun x => u (h c x)
/-- as above, where U' may hold besides what was free -/
theorem Sm.monoN {U U' : Addr → Prop} {H H1 H2 : Hp} (a : Sm U H H1) (b : Sm U' H1 H2) (h : ∀ b, U' b → U b ∨ H b = none) : Sm U H H2 := fun c o e u => b c o (a c o e u) fun x => by
  rcases h c x with q | q
  · exact u q
  · rw [e] at q; cases q
theorem Sm.upd {U : Addr → Prop} {H H' : Hp} {p : Addr} {o : HO} (a : Sm U H H') (h : U p ∨ H p = none) : Sm U H (upd H' p o) := fun b u hb nu => by
  rw [upd_ne]
  · exact a b u hb nu
  · intro e
    subst e
    rcases h with h | h
    · exact nu h
    · rw [hb] at h; cases h
theorem Sm.free {H H' : Hp} {U : Addr → Prop} (a : Sm U H H') {p : Addr} (h : H' p = none) : U p ∨ H p = none := by
  cases e : H p with
  | none => exact .inr rfl
  | some o =>
    refine Classical.byCases (p := U p) .inl fun nu => ?_
    rw [a p o e nu] at h
    cases h

/-! ### the source -/
def Src (H : Hp) (s : Addr) : Prop := ∃ c0 c1 c2 : Int, H s = some (.lst [.int c0, .int c1, .int c2])
theorem Src.sm {U : Addr → Prop} {H H' : Hp} {s : Addr} (h : Src H s) (a : Sm U H H') (nu : ¬ U s) : Src H' s := by
  obtain ⟨c0, c1, c2, h⟩ := h
  exact ⟨c0, c1, c2, a _ _ h nu⟩
theorem Src.ex {H H' : Hp} {s : Addr} (h : Src H s) (a : Ex H H') : Src H' s := by
  obtain ⟨c0, c1, c2, h⟩ := h
  exact ⟨c0, c1, c2, a _ _ h⟩
theorem Src.some {H : Hp} {s : Addr} (h : Src H s) : H s ≠ none := by
  obtain ⟨c0, c1, c2, h⟩ := h
  rw [h]; exact fun e => nomatch e

/-! ### the model -/
inductive Role where
  | no | top | ls (i : Nat) | inn (i k : Nat) | tp
structure Lay where
  m : Addr
  l : Nat → Addr
  a : Nat → Nat → Addr
  ρ : Addr → Role
/-- tuples of cell and value -/
def Tups (H : Hp) : List Addr → List (Int × Int) → Prop
  | [], [] => True
  | t :: ts, p :: ps => H t = some (.tup [.int p.1, .int p.2]) ∧ Tups H ts ps
  | _, _ => False
theorem Tups.len {H : Hp} : ∀ {ts : List Addr} {ps : List (Int × Int)}, Tups H ts ps → ts.length = ps.length
  | [], [], _ => rfl
  | _ :: _, _ :: _, h => congrArg (· + 1) (Tups.len h.2)
  | [], _ :: _, h => h.elim
  | _ :: _, [], h => h.elim
theorem Tups.get {H : Hp} : ∀ {ts : List Addr} {ps : List (Int × Int)} {i : Nat} {t : Addr}, Tups H ts ps → ts[i]? = some t → ∃ p, ps[i]? = some p ∧ H t = some (.tup [.int p.1, .int p.2])
  | _ :: _, p :: _, 0, t, h, e => by
    cases e
    exact ⟨p, rfl, h.1⟩
  | _ :: _, _ :: _, i + 1, t, h, e => Tups.get (i := i) h.2 e
  | [], _, i, t, h, e => by cases e
  | _ :: _, [], i, t, h, e => h.elim
theorem Tups.keep {H H' : Hp} : ∀ {ts : List Addr} {ps : List (Int × Int)}, Tups H ts ps → (∀ t ∈ ts, ∀ o, H t = some o → H' t = some o) → Tups H' ts ps
  | [], [], _, _ => trivial
  | _ :: _, _ :: _, h, k => ⟨k _ (.head _) _ h.1, Tups.keep h.2 fun t ht => k t (.tail _ ht)⟩
  | [], _ :: _, h, _ => h.elim
  | _ :: _, [], h, _ => h.elim
theorem Tups.ex {H H' : Hp} {ts : List Addr} {ps : List (Int × Int)} (h : Tups H ts ps) (e : Ex H H') : Tups H' ts ps := h.keep fun _ _ _ q => e _ _ q
theorem Tups.snoc {H : Hp} : ∀ {ts : List Addr} {ps : List (Int × Int)} {t : Addr} {p : Int × Int}, Tups H ts ps → H t = some (.tup [.int p.1, .int p.2]) → Tups H (ts ++ [t]) (ps ++ [p])
  | [], [], _, _, _, h => ⟨h, trivial⟩
  | _ :: _, _ :: _, _, _, h, h' => ⟨h.1, Tups.snoc h.2 h'⟩
  | [], _ :: _, _, _, h, _ => h.elim
  | _ :: _, [], _, _, h, _ => h.elim
def five (i : Nat) : Prop := i = 1 ∨ i = 3 ∨ i = 4 ∨ i = 5 ∨ i = 6
abbrev rowsOf (L : Lay) (n i : Nat) : List V := (List.range (n + 1)).map fun k => V.ref (L.a i k)
structure Md (H : Hp) (L : Lay) (A : Ab) : Prop where
  rm : L.ρ L.m = .top
  rl : ∀ i, i ≤ 6 → L.ρ (L.l i) = .ls i
  ra : ∀ i k, five i → k ≤ A.n → L.ρ (L.a i k) = .inn i k
  tr : ∀ b, L.ρ b ≠ .no → H b ≠ none
  m : H L.m = some (.lst [.ref (L.l 0), .ref (L.l 1), .ref (L.l 2), .ref (L.l 3), .ref (L.l 4), .ref (L.l 5), .ref (L.l 6)])
  base : ∃ xs : List Int, H (L.l 0) = some (.lst (xs.map V.int)) ∧ xs.length = A.cells
  o : ∀ i, five i → H (L.l i) = some (.lst (rowsOf L A.n i))
  o2 : H (L.l 2) = some (.lst ((List.range (A.n + 1)).map fun k => V.int (A.sz k)))
  i1 : ∀ k, k ≤ A.n → ∃ ts : List Addr, H (L.a 1 k) = some (.lst (ts.map V.ref)) ∧ Tups H ts (A.ws k) ∧ ∀ t ∈ ts, L.ρ t = .tp
  i3 : ∀ k, k ≤ A.n → H (L.a 3 k) = some (.lst (nv (asc A.n (A.R k))))
  i4 : ∀ k, k ≤ A.n → H (L.a 4 k) = some (.lst (nv (asc A.n (A.B k))))
  i5 : ∀ k, k ≤ A.n → H (L.a 5 k) = some (.lst (nv (A.dem k)))
  i6 : ∀ k, k ≤ A.n → H (L.a 6 k) = some (.lst (nv (A.qua k)))
  nmax : A.n ≤ 30
  c1 : 1 ≤ A.cells
  c2 : A.cells ≤ 20
theorem five1 : five 1 := .inl rfl
theorem five3 : five 3 := .inr (.inl rfl)
theorem five4 : five 4 := .inr (.inr (.inl rfl))
theorem five5 : five 5 := .inr (.inr (.inr (.inl rfl)))
theorem five6 : five 6 := .inr (.inr (.inr (.inr rfl)))
theorem five_le {i : Nat} (h : five i) : i ≤ 6 := by rcases h with h | h | h | h | h <;> omega
theorem Md.sm {U : Addr → Prop} {H H' : Hp} {L : Lay} {A : Ab} (h : Md H L A) (s : Sm U H H') (hu : ∀ b, U b → L.ρ b = .no) : Md H' L A := by
  have k : ∀ b o, L.ρ b ≠ .no → H b = some o → H' b = some o := fun b o hb e => s b o e fun u => hb (hu b u)
  have kl : ∀ i o, i ≤ 6 → H (L.l i) = some o → H' (L.l i) = some o := fun i o hi e => k _ _ (by rw [h.rl i hi]; exact fun e => nomatch e) e
  have ka : ∀ i j o, five i → j ≤ A.n → H (L.a i j) = some o → H' (L.a i j) = some o := fun i j o hi hj e => k _ _ (by rw [h.ra i j hi hj]; exact fun e => nomatch e) e
  refine ⟨h.rm, h.rl, h.ra, fun b hb e => ?_, k _ _ (by rw [h.rm]; exact fun e => nomatch e) h.m, ?_, fun i hi => kl _ _ (five_le hi) (h.o i hi), kl _ _ (by omega) h.o2, fun j hj => ?_, fun j hj => ka _ _ _ five3 hj (h.i3 j hj), fun j hj => ka _ _ _ five4 hj (h.i4 j hj), fun j hj => ka _ _ _ five5 hj (h.i5 j hj), fun j hj => ka _ _ _ five6 hj (h.i6 j hj), h.nmax, h.c1, h.c2⟩
  · cases q : H b with
    | none => exact h.tr b hb q
    | some o => rw [k b o hb q] at e; cases e
  · obtain ⟨xs, e, l⟩ := h.base
    exact ⟨xs, kl _ _ (by omega) e, l⟩
  · obtain ⟨ts, e, t, r⟩ := h.i1 j hj
    exact ⟨ts, ka _ _ _ five1 hj e, t.keep fun b hb o q => k b o (by rw [r b hb]; exact fun e => nomatch e) q, r⟩
theorem Md.ex {H H' : Hp} {L : Lay} {A : Ab} (h : Md H L A) (e : Ex H H') : Md H' L A := h.sm (U := fun _ => False) (.of e) fun _ u => u.elim
theorem Md.no {H : Hp} {L : Lay} {A : Ab} (h : Md H L A) {p : Addr} (hp : H p = none) : L.ρ p = .no := by
  cases e : L.ρ p with
  | no => rfl
  | _ => exact absurd hp (h.tr p (by rw [e]; exact fun q => nomatch q))
theorem range_get {α : Type} {n k : Nat} (f : Nat → α) (h : k < n) : ((List.range n).map f)[k]? = some (f k) := by
  rw [List.getElem?_map, List.getElem?_range h] <;> rfl
theorem at_map {α : Type} {n k : Nat} (f : Nat → α) (h : k < n) : atI ((List.range n).map f) (k : Int) = some (f k) := atI_nat (range_get f h)

/-! ### the book -/
structure BLay where
  p : Addr
  dx : Addr
  bs : Addr
  ln : Addr
  lv : Addr
  ls : Addr
  le : Addr
  lb : Addr
  lw : Addr
def BLay.all (Y : BLay) : List Addr := [Y.p, Y.ln, Y.lv, Y.ls, Y.le, Y.lb, Y.lw]
def BLay.flds (Y : BLay) (c : Nat) : List (Str × V) := [("cells", .int c), ("_base", .ref Y.bs), ("_numbers", .ref Y.ln), ("_values", .ref Y.lv), ("_sizes", .ref Y.ls), ("_needs", .ref Y.le), ("_bars", .ref Y.lb), ("_writers", .ref Y.lw)]
structure Bk (K : PySem.W.Frag) (H : Hp) (Y : BLay) (A : Ab) (j : Nat) (fN fB fW : Nat → Nat) : Prop where
  nd : Y.all.Nodup
  p : H Y.p = some (.ins (He.ga K "Book") Y.dx (Y.flds A.cells))
  n : H Y.ln = some (.lst (nv (List.range' 1 j)))
  v : ∃ xs, H Y.lv = some (.lst xs) ∧ xs.length = j + 1
  s : ∃ xs, H Y.ls = some (.lst xs) ∧ xs.length = j + 1
  e : H Y.le = some (.lst (nv ((List.range (j + 1)).map fN)))
  b : H Y.lb = some (.lst (nv ((List.range (j + 1)).map fB)))
  w : H Y.lw = some (.lst (nv ((List.range A.cells).map fW)))
  be : ∀ k, k ≤ j → Bt (fN k) (fun o => A.R k o)
  bb : ∀ k, k ≤ j → Bt (fB k) (fun o => A.B k o && decide (o ≤ j))
  bw : ∀ c, c < A.cells → Bt (fW c) (fun o => decide (1 ≤ o ∧ o ≤ j) && (A.ws o).any (fun p => decide (p.1 = (c : Int))))
  jn : j ≤ A.n
  nmax : A.n ≤ 30
  c1 : 1 ≤ A.cells
  c2 : A.cells ≤ 20
def BkE (K : PySem.W.Frag) (H : Hp) (Y : BLay) (A : Ab) (j : Nat) : Prop := ∃ fN fB fW, Bk K H Y A j fN fB fW
theorem Bk.sm {K : PySem.W.Frag} {U : Addr → Prop} {H H' : Hp} {Y : BLay} {A : Ab} {j : Nat} {fN fB fW : Nat → Nat} (h : Bk K H Y A j fN fB fW) (s : Sm U H H') (hu : ∀ b ∈ Y.all, ¬ U b) : Bk K H' Y A j fN fB fW := by
  have k : ∀ b o, b ∈ Y.all → H b = some o → H' b = some o := fun b o hb e => s b o e (hu b hb)
  refine ⟨h.nd, k _ _ (by simp [BLay.all]) h.p, k _ _ (by simp [BLay.all]) h.n, ?_, ?_, k _ _ (by simp [BLay.all]) h.e, k _ _ (by simp [BLay.all]) h.b, k _ _ (by simp [BLay.all]) h.w, h.be, h.bb, h.bw, h.jn, h.nmax, h.c1, h.c2⟩
  · obtain ⟨xs, e, l⟩ := h.v
    exact ⟨xs, k _ _ (by simp [BLay.all]) e, l⟩
  · obtain ⟨xs, e, l⟩ := h.s
    exact ⟨xs, k _ _ (by simp [BLay.all]) e, l⟩
theorem Bk.ex {K : PySem.W.Frag} {H H' : Hp} {Y : BLay} {A : Ab} {j : Nat} {fN fB fW : Nat → Nat} (h : Bk K H Y A j fN fB fW) (e : Ex H H') : Bk K H' Y A j fN fB fW := h.sm (U := fun _ => False) (.of e) fun _ _ u => u
theorem Bk.some {K : PySem.W.Frag} {H : Hp} {Y : BLay} {A : Ab} {j : Nat} {fN fB fW : Nat → Nat} (h : Bk K H Y A j fN fB fW) {b : Addr} (hb : b ∈ Y.all) : H b ≠ none := by
  simp only [BLay.all, List.mem_cons, List.mem_nil_iff, or_false] at hb
  obtain ⟨xs, ev, _⟩ := h.v
  obtain ⟨ys, es, _⟩ := h.s
  rcases hb with rfl | rfl | rfl | rfl | rfl | rfl | rfl
  · rw [h.p]; exact fun e => nomatch e
  · rw [h.n]; exact fun e => nomatch e
  · rw [ev]; exact fun e => nomatch e
  · rw [es]; exact fun e => nomatch e
  · rw [h.e]; exact fun e => nomatch e
  · rw [h.b]; exact fun e => nomatch e
  · rw [h.w]; exact fun e => nomatch e
theorem Bk.nums {K : PySem.W.Frag} {H : Hp} {Y : BLay} {A : Ab} {j : Nat} {fN fB fW : Nat → Nat} (h : Bk K H Y A j fN fB fW) : BkN K H Y.p Y.ln (nv (List.range' 1 j)) := ⟨Y.dx, _, h.p, rfl, h.n⟩
/-- the book stands apart from what changes -/
def Off (Y : BLay) (U : Addr → Prop) : Prop := ∀ b ∈ Y.all, ¬ U b
end K27
set_option Elab.async false
set_option linter.all false
set_option maxRecDepth 100000
set_option maxHeartbeats 4000000
/-! K27RulesK: rules whose reading names the written part K by itself (within comprehensions). -/
namespace K27
open PySem PySem.Spec PyProof.Rows L2 Evl
section
variable {X : Cx} {K : PySem.W.Frag} {tg l e o : Expr} {es : List Expr} {tl ta to te tv : TE} {t : TA}
theorem ix_listK (h : X.K = K := by rfl) : IxR X (rIxL K) := h ▸ ix_list
theorem ix_tupK (h : X.K = K := by rfl) : IxR X (rIxT K) := h ▸ ix_tup
theorem op_inK (h : X.K = K := by rfl) : OpR X (compareOp .In) (rIn K false) := h ▸ op_in_seq
theorem op_niK (h : X.K = K := by rfl) : OpR X (compareOp .NotIn) (rIn K true) := h ▸ op_notIn_seq
theorem call_lenK (h : X.K = K := by rfl) : CallR X (.builtin "len") (rLenS K) := h ▸ call_len_seq
theorem call_listK (h : X.K = K := by rfl) : CallR X (.type "list") (rListS K) := h ▸ call_list_of
def rTupOf (K : PySem.W.Frag) : List V → Hp → VK → Prop := fun xs H Q => ∃ p ys, xs = [.ref p] ∧ ((SqL K H p ys ∧ ∀ l, H l = none → Q (.ref l) (upd H l (.tup ys))) ∨ (SqT K H p ys ∧ Q (.ref p) H))
theorem call_tupK (h : X.K = K := by rfl) : CallR X (.type "tuple") (rTupOf K) := h ▸ call_tuple_of
theorem pi_listK (hl : PE X l tl) (h : X.K = K := by rfl) : PI X tg l (iList K tl) := h ▸ pi_list hl
theorem pi_tupK (hl : PE X l tl) (h : X.K = K := by rfl) : PI X tg l (iTup K tl) := h ▸ pi_tup hl
theorem op_catK (h : X.K = K := by rfl) : OpR X (binaryOp .Add) (rCatA K) := h ▸ op_catA
theorem op_eqK (hu : X.A.units + 64 < cLine) (h : X.K = K := by rfl) : OpR X (compareOp .Eq) (rEqD K) := h ▸ op_eqD hu
theorem op_neK (hu : X.A.units + 64 < cLine) (h : X.K = K := by rfl) : OpR X (compareOp .NotEq) (rNeD K) := h ▸ op_neD hu
theorem cr_maxK (hc : X.calm = true) (h : X.K = K := by rfl) : CallR X (.builtin "max") (rMax K) := h ▸ cr_max hc
theorem cr_sortedK (h : X.K = K := by rfl) : CallR X (.builtin "sorted") (rSortedI K) := h ▸ cr_sortedI
theorem call_isiK' (h : X.K = K := by rfl) : CallR X (.builtin "isinstance") (rIsi K) := h ▸ call_isi
theorem pe_fldK {f : Str} {pos : Pos} (he : PE X e ta) (hb : attributeBase e f X.env (eval e X.env) = eval e X.env) (h : X.K = K := by rfl) : PE X (.Attribute e f pos) (tFld K ta f) := h ▸ pe_fld he hb
/-- xs.append(e) -/
theorem pe_appK {apos cpos : Pos} (ho : PE X o to) (ha : PA X [e] t)
    (hbase : attributeBase o "append" X.env (eval o X.env) = eval o X.env := by rfl)
    (hfew : ((backTo cpos (starEach [e] X.env)).all (fun x => !x.1) && (backToKw cpos (keywordEach [] X.env)).all (fun x => x.1.isSome)
      && decide (([e] : List Expr).length + ([] : List Keyword).length + (if ([] : List Keyword).isEmpty then 0 else 1) < 30)) = true := by rfl)
    (hline : (apos.endLine == cpos.line) = true := by rfl)
    (hs : starEach [e] X.env = (false, eval e X.env) :: starEach [] X.env := by rfl) (h : X.K = K := by rfl) : PE X (.Call (.Attribute o "append" apos) [e] [] cpos) (tBM K "list" rAppend to t) := by
  subst h
  exact pe_bm PySem.F.plainAttrs_list PySem.F.slot_list_append PySem.F.type_list_append mt_append ho ha hbase hfew hline hs
end
end K27
set_option Elab.async false
set_option linter.all false
set_option maxRecDepth 100000
set_option maxHeartbeats 4000000
/-! K27W1: the source of draws. -/
namespace K27
open PySem PySem.Spec PyProof.Rows L2 Evl
local macro_rules | `(tactic| walk_at "rd") => `(tactic| repeat (first | refine ⟨_, _, rfl, rfl, ?_⟩ | refine ⟨_, rfl, ?_⟩ | refine ⟨_, _, _, _, rfl, rfl, SqL.of (by assumption), rfl, ?_⟩ | refine Or.inl ⟨_, rfl, ?_⟩ | refine ⟨Or.inl (by decide), ?_⟩ | refine ⟨(by decide : _ ≠ _), ?_⟩))
section
variable {w : World} {K : PySem.W.Frag} {mg : Str → Option Value} {base : Heap}
theorem sc_l_draw : FnScope ["_law_source_here", "_law_many", "_law_told_here", "_law_mixed"] ["_law_source_here", "_law_many"] (defScope s_l_draw) := ⟨rfl, rfl, rfl, by decide +kernel, rfl, by decide +kernel, by decide +kernel⟩
def spDraw : Sp := fun vs H Q _ => ∃ (s : Addr) (m : Int), vs = [.ref s, .int m] ∧ 0 < m ∧ m < 1000000 ∧ Src H s ∧ ∀ (r : Nat) H', (r : Int) < m → Src H' s → Sm (· = s) H H' → Q (.int (r : Int)) H'
theorem fmod_nat {i m : Int} (h : 0 < m) : ∃ r : Nat, i.fmod m = (r : Int) ∧ (r : Int) < m := by
  have h1 : 0 ≤ i.fmod m := by rw [Int.fmod_eq_emod_of_nonneg i (by omega)]; exact Int.emod_nonneg _ (by omega)
  have h2 : i.fmod m < m := by rw [Int.fmod_eq_emod_of_nonneg i (by omega)]; exact Int.emod_lt_of_pos _ h
  exact ⟨(i.fmod m).toNat, by omega, by omega⟩
theorem cmul_fmod {i m j : Int} (h : 0 < m) (h2 : m < 1000000000000) : CMul (i.fmod m) j := by
  obtain ⟨r, er, hr⟩ := fmod_nat (i := i) h
  rw [er]
  exact .inl ⟨by omega, by omega⟩
theorem ok_l_draw (T : Txt K mg) : OkC PP w K mg base CX0 1 ("_law_draw", none) ["_law_source_here", "_law_many"] spDraw :=
  ok0 T.F_l_draw sc_l_draw (fun _ _ _ _ _ _ us hl => match us, hl with | [_, _], _ => rfl) (by rintro vs H Q E ⟨s, m, rfl, _⟩; rfl) fun f cdv A outer s0 H vs Q E hr h => by
    obtain ⟨s, m, rfl, hm0, hm1, ⟨c0, c1, c2, hs⟩, k⟩ := h
    refine ⟨_, (pss_cons (ps_asg (pe_op op_add (pe_ix (ix_listK (K := K)) (pv 0) pe_int (fun _ _ => rfl)) pe_int) (pg_sub (pv 0) pe_int set_list)) (pss_cons (ps_if (pt_cmpR op_gt (pe_ix (ix_listK (K := K)) (pv 0) pe_int (fun _ _ => rfl)) pe_int (nomark _)) (pss_cons (ps_set (i := 2) sc_l_draw.nd rfl (Or.inl rfl) (pe_op op_modN (pe_callTy call_int1 (by rfl) T.z_int (by decide +kernel) (pa_cons (pe_ix (ix_listK (K := K)) (pv 0) pe_int (fun _ _ => rfl)) pa_nil)) (pv 1))) (pss_cons (ps_asg (pe_op op_fdivN (pe_ix (ix_listK (K := K)) (pv 0) pe_int (fun _ _ => rfl)) (pv 1)) (pg_sub (pv 0) pe_int set_list)) (pss_one (ps_ret (pv 2))))) pss_nil) (pss_cons (ps_set (i := 3) sc_l_draw.nd rfl (Or.inl rfl) (pe_op op_modN (pe_callTy call_int1 (by rfl) T.z_int (by decide +kernel) (pa_cons (pe_op op_add (pe_op op_add (pe_ix (ix_listK (K := K)) (pv 0) pe_int (fun _ _ => rfl)) (pe_op op_mul pe_int (pe_ix (ix_listK (K := K)) (pv 0) pe_int (fun _ _ => rfl)))) pe_int) pa_nil)) pe_int)) (pss_cons (ps_set (i := 3) sc_l_draw.nd rfl (Or.inl rfl) (pe_op op_modN (pe_callTy call_int1 (by rfl) T.z_int (by decide +kernel) (pa_cons (pe_op op_mul (pv 3) (pe_op op_add (pv 3) pe_int)) pa_nil)) pe_int)) (pss_cons (ps_set (i := 3) sc_l_draw.nd rfl (Or.inl rfl) (pe_op op_modN (pe_callTy call_int1 (by rfl) T.z_int (by decide +kernel) (pa_cons (pe_op op_add (pe_op op_mul (pv 3) (pe_op op_add (pv 3) pe_int)) (pe_op op_mul pe_int (pe_ix (ix_listK (K := K)) (pv 0) pe_int (fun _ _ => rfl)))) pa_nil)) pe_int)) (pss_one (ps_ret (pe_op op_modN (pe_callTy call_int1 (by rfl) T.z_int (by decide +kernel) (pa_cons (pe_op op_fdivN (pv 3) pe_int) pa_nil)) (pv 1))))))))), ?_⟩
    have h1 : upd H s (.lst [.int c0, .int c1, .int (c2 + 1)]) s = some (.lst [.int c0, .int c1, .int (c2 + 1)]) := upd_same
    have e1 : Sm (· = s) H (upd H s (.lst [.int c0, .int c1, .int (c2 + 1)])) := (Sm.refl _ _).upd (.inl rfl)
    walk_at "rd"
    refine ⟨_, _, _, _, rfl, rfl, hs, rfl, ?_⟩
    walk_at "rd"
    refine it2 (fun hc => ?_) (fun hc => ?_)
    · walk_at "rd"
      refine ⟨by omega, ?_⟩
      walk_at "rd"
      refine ⟨⟨by omega, by omega⟩, ?_⟩
      walk_at "rd"
      refine ⟨_, _, _, _, rfl, rfl, h1, rfl, ?_⟩
      obtain ⟨r, er, hr⟩ := fmod_nat (i := c1) hm0
      refine ⟨_, rfl, ?_⟩
      show Q (.int (c1.fmod m)) _
      rw [er]
      exact k r _ hr ⟨_, _, _, upd_same⟩ (e1.upd (.inl rfl))
    · walk_at "rd"
      refine ⟨cmul_fmod (by decide) (by decide), ?_⟩
      walk_at "rd"
      refine ⟨cmul_fmod (by decide) (by decide), ?_⟩
      walk_at "rd"
      refine ⟨⟨by decide, by decide⟩, ?_⟩
      walk_at "rd"
      refine ⟨by omega, ?_⟩
      obtain ⟨r, er, hr⟩ := fmod_nat (i := ((((c0 + 7919 * (c2 + 1) + 13).fmod 2147483647 * ((c0 + 7919 * (c2 + 1) + 13).fmod 2147483647 + 48271)).fmod 2147483629 * ((((c0 + 7919 * (c2 + 1) + 13).fmod 2147483647 * ((c0 + 7919 * (c2 + 1) + 13).fmod 2147483647 + 48271)).fmod 2147483629) + 69621) + 31 * (c2 + 1)).fmod 2147483647).fdiv 9) hm0
      show Q (.int (Int.fmod _ m)) _
      refine Eq.mpr (congrArg (fun z => Q (V.int z) _) er) ?_
      exact k r _ hr ⟨_, _, _, h1⟩ e1
end
end K27
set_option Elab.async false
set_option linter.all false
set_option maxRecDepth 100000
set_option maxHeartbeats 4000000
/-! K27Ev: readings by what they evaluate to: fields, rows of the model, comprehensions. -/
namespace K27
open PySem PySem.Spec PyProof.Rows L2 Evl
section
variable {K : PySem.W.Frag} {mg : Str → Option Value} {σ : L2.St} {H H' : Hp} {ta tb te tx tm tk : TE} {t u : TT} {x y z v : V} {r : R2} {a C dx : Addr} {fs : List (Str × V)} {f : Str}
theorem ev_fld (ha : Ev ta σ H (.ref a)) (ho : H a = some (.ins C dx fs)) (hc : Cls K C) (hn : NoAttr K C f) (hl : fs.lookup f = some v) : Ev (tFld K ta f) σ H v := fun H1 e _ q =>
  ha H1 e _ fun H2 e2 => ⟨a, C, dx, fs, v, rfl, e2 _ _ (e _ _ ho), hc, hn, hl, q H2 e2⟩
theorem ev_meth {m : Str} {sp : Sp} {E : XK} {t : TA} {vs : List V} (ha : Ev ta σ H (.ref a)) (ho : H a = some (.ins C dx fs)) (hl : fs.lookup m = none) (h : EvA t σ H vs) (hs : SpV sp (.ref a :: (vs ++ [])) H z) : Ev (tMeth C m sp [] E ta t) σ H z := fun H1 e Q q =>
  ha H1 e _ fun H2 e2 => ⟨a, dx, fs, rfl, e2 _ _ (e _ _ ho), hl, h H2 (e.trans e2) _ fun H3 e3 => hs H3 ((e.trans e2).trans e3) Q (fun H4 e4 => q H4 ((e2.trans e3).trans e4)) E⟩
theorem eu_call {sp : Sp} {E : XK} {ta : TA} {vs xs : List V} (h : EvA ta σ H vs) (hs : ∀ H1, Ex H H1 → ∀ Q : VK, (∀ p H2, H1 p = none → Ex H1 H2 → H2 p = some (.tup xs) → Q (.ref p) H2) → sp (vs ++ []) H1 Q E) : EvU (tCall sp [] E ta) σ H xs := fun H1 e Q q =>
  h H1 e _ fun H2 e2 => hs H2 (e.trans e2) Q (fun p H3 hp e3 h3 => q p H3 (fresh_back e2 hp) (e2.trans e3) h3)
theorem eu_meth {m : Str} {sp : Sp} {E : XK} {t : TA} {vs xs : List V} (ha : Ev ta σ H (.ref a)) (ho : H a = some (.ins C dx fs)) (hl : fs.lookup m = none) (h : EvA t σ H vs) (hs : ∀ H1, Ex H H1 → ∀ Q : VK, (∀ p H2, H1 p = none → Ex H1 H2 → H2 p = some (.tup xs) → Q (.ref p) H2) → sp (.ref a :: (vs ++ [])) H1 Q E) : EvU (tMeth C m sp [] E ta t) σ H xs := fun H1 e Q q =>
  ha H1 e _ fun H2 e2 => ⟨a, dx, fs, rfl, e2 _ _ (e _ _ ho), hl, h H2 (e.trans e2) _ fun H3 e3 => hs H3 ((e.trans e2).trans e3) Q (fun p H4 hp e4 h4 => q p H4 (fresh_back (e2.trans e3) hp) ((e2.trans e3).trans e4) h4)⟩
theorem ev_bits {i : Int} (ha : Ev ta σ H (.int i)) : Ev (tBits ta) σ H (.int (Builtin.Int.intBits i : Nat)) := fun H1 e _ q => ha H1 e _ fun H2 e2 => ⟨i, rfl, q H2 e2⟩
theorem ev_lenT {p : Addr} {xs : List V} (ha : Ev ta σ H (.ref p)) (h : SqT K H p xs) : Ev (tCB (rLenS K) (tCons ta tNil)) σ H (.int (xs.length : Int)) := fun H1 e Q q =>
  ha H1 e _ fun H2 e2 => ⟨p, xs, rfl, Or.inr (ex_t (e.trans e2) h), q H2 e2⟩
theorem ru_inv {i : Int} : RU (rU fun i => .int (Builtin.bitNot i)) (.int i) H (.int (Builtin.bitNot i)) := fun H1 _ _ q => ⟨i, rfl, q H1 (Ex.refl H1)⟩
theorem rv_shl {k : Nat} (hk : k ≤ 1000) : RV (fun x y H Q => ∃ k : Nat, x = .int 1 ∧ y = .int (k : Int) ∧ k ≤ 134217727 ∧ Q (.int (2 ^ k)) H) (.int 1) (.int (k : Int)) H (.int ((2 ^ k : Nat) : Int)) := fun H1 _ _ q =>
  ⟨k, rfl, rfl, by omega, by
    have e : ((2 ^ k : Nat) : Int) = (2 : Int) ^ k := by simp
    rw [← e]
    exact q H1 (Ex.refl H1)⟩
theorem ex_lo {H H' : Hp} {a : Addr} {o : HO} (e : Ex H H') (h : H a = some o) : H' a = some o := e a o h
/-! the model -/
variable {L : Lay} {A : Ab}
theorem ev_row {i : Nat} (h : Md H L A) (hm : Ev tm σ H (.ref L.m)) (hi : i ≤ 6) : Ev (tOp (rIxL K) tm (tC (.int (i : Int)))) σ H (.ref (L.l i)) := by
  refine ev_op hm ev_c (rv_ixL (SqL.of h.m) ?_)
  have : i = 0 ∨ i = 1 ∨ i = 2 ∨ i = 3 ∨ i = 4 ∨ i = 5 ∨ i = 6 := by omega
  rcases this with e | e | e | e | e | e | e <;> subst e <;> rfl
theorem ev_len1 (h : Md H L A) (hm : Ev tm σ H (.ref L.m)) : Ev (tCB (rLenS K) (tCons (tOp (rIxL K) tm (tC (.int 1))) tNil)) σ H (.int ((A.n : Int) + 1)) := by
  have q := ev_len (K := K) (ev_row (K := K) (i := 1) h hm (by omega)) (SqL.of (h.o 1 five1))
  have e : (((rowsOf L A.n 1).length : Nat) : Int) = (A.n : Int) + 1 := by simp
  rw [e] at q
  exact q
theorem ev_inn {i k : Nat} (h : Md H L A) (hi : five i) (hm : Ev tm σ H (.ref L.m)) (hk : Ev tk σ H (.int (k : Int))) (hn : k ≤ A.n) : Ev (tOp (rIxL K) (tOp (rIxL K) tm (tC (.int (i : Int)))) tk) σ H (.ref (L.a i k)) :=
  ev_op (ev_row h hm (five_le hi)) hk (rv_ixL (SqL.of (h.o i hi)) (at_map _ (by omega)))
theorem ev_len0 (h : Md H L A) (hm : Ev tm σ H (.ref L.m)) : Ev (tCB (rLenS K) (tCons (tOp (rIxL K) tm (tC (.int 0))) tNil)) σ H (.int (A.cells : Int)) := by
  obtain ⟨xs, e, l⟩ := h.base
  have q := ev_len (K := K) (ev_row (K := K) (i := 0) h hm (by omega)) (SqL.of e)
  rw [List.length_map, l] at q
  exact q

/-! comprehensions -/
theorem el_lcR2 {ta : TA} {j : Nat} {vs : List Nat} {lo n : Int} (f : Nat → Bool) (v : Nat → V) (h : EvA ta σ H [.int lo, .int n]) (hn : 0 ≤ lo ∧ lo ≤ 40000 ∧ -40000 ≤ n ∧ n ≤ 40000) (hw : ∀ x, wipe ((wipe σ vs).set j (some x)) vs = wipe σ vs)
    (ht : ∀ (i : Nat) H1, Ex H H1 → lo + (i : Int) < n → EvT t ((wipe σ vs).set j (some (.int (lo + (i : Int))))) H1 (f i)) (he : ∀ (i : Nat) H1, Ex H H1 → lo + (i : Int) < n → f i = true → Ev te ((wipe σ vs).set j (some (.int (lo + (i : Int))))) H1 (v i)) :
    EvL (tLc (iRng2 ta) (gName j) t te vs) σ H (given (n - lo).toNat f v) := fun H0 e Q q => h H0 e _ fun H1 e1 => ⟨lo, n, rfl, ⟨by omega, by omega, by omega, by omega⟩, fun Dl hD =>
  lc_range (lo := lo) (n := (n - lo).toNat) (Cw H1 f v Dl) ⟨hD, Ex.new hD, upd_same⟩ (fun i H' hi p => ⟨hw _, cw_turn p (by omega) (ht i H1 (e.trans e1) (by omega)) (fun hf => he i H1 (e.trans e1) (by omega) hf)⟩) (fun H' p => q Dl H' (fresh_back e1 p.1) (e1.trans p.2.1) p.2.2)⟩
theorem el_lcT {a : Addr} {xs : List V} {tl : TE} {j : Nat} {vs : List Nat} (f : Nat → Bool) (v : Nat → V) (h : Ev tl σ H (.ref a)) (hx : SqT K H a xs) (hz : xs.length ≤ 40000) (hw : ∀ x, wipe ((wipe σ vs).set j (some x)) vs = wipe σ vs)
    (ht : ∀ (i : Nat) (x : V) H1, Ex H H1 → xs[i]? = some x → EvT t ((wipe σ vs).set j (some x)) H1 (f i)) (he : ∀ (i : Nat) (x : V) H1, Ex H H1 → xs[i]? = some x → f i = true → Ev te ((wipe σ vs).set j (some x)) H1 (v i)) :
    EvL (tLc (iTup K tl) (gName j) t te vs) σ H (given xs.length f v) := fun H0 e Q q => h H0 e _ fun H1 e1 => ⟨a, rfl, ⟨xs, ex_t (e.trans e1) hx⟩, fun Dl hD =>
  lc_tup (xs := xs) (Cw H1 f v Dl) ⟨hD, Ex.new hD, upd_same⟩ (fun i H' _ p => ex_t ((e.trans e1).trans p.2.1) hx) (fun i x H' hi p => ⟨hw x, cw_turn p (by have := (List.getElem?_eq_some_iff.mp hi).1; omega) (ht i x H1 (e.trans e1) hi) (fun hf => he i x H1 (e.trans e1) hi hf)⟩)
    (fun H' p => q Dl H' (fresh_back e1 p.1) (e1.trans p.2.1) p.2.2)⟩
theorem given_asc (n : Nat) (S : Nat → Bool) : given n (fun i => S (i + 1)) (fun i => V.int ((i + 1 : Nat) : Int)) = nv (asc n S) := by
  induction n with
  | zero => rfl
  | succ n ih =>
    rw [asc_succ]
    cases h : S (n + 1) with
    | true =>
      rw [given_yes (f := fun i => S (i + 1)) h, ih]
      simp [nv]
    | false =>
      rw [given_no (f := fun i => S (i + 1)) h, ih]
      simp [nv]
theorem el_asc {ta : TA} {j : Nat} {vs : List Nat} {n : Nat} {hi : Int} (S : Nat → Bool) (h : EvA ta σ H [.int 1, .int hi]) (eh : hi = (n : Int) + 1) (hn : n ≤ 1000) (hw : ∀ x, wipe ((wipe σ vs).set j (some x)) vs = wipe σ vs)
    (ht : ∀ (o : Nat), 1 ≤ o → o ≤ n → EvT t ((wipe σ vs).set j (some (.int (o : Int)))) H (S o)) (he : ∀ (o : Nat) H1, Ev te ((wipe σ vs).set j (some (.int (o : Int)))) H1 (.int (o : Int))) :
    EvL (tLc (iRng2 ta) (gName j) t te vs) σ H (nv (asc n S)) := by
  subst eh
  have c : ∀ i : Nat, (1 : Int) + (i : Int) = ((i + 1 : Nat) : Int) := fun i => by omega
  have q := el_lcR2 (t := t) (te := te) (j := j) (fun i => S (i + 1)) (fun i => V.int ((i + 1 : Nat) : Int)) h ⟨by omega, by omega, by omega, by omega⟩ hw (fun i H1 e hi => by
    rw [c i]
    exact (ht (i + 1) (by omega) (by omega)).mono e) (fun i H1 e hi _ => by
    rw [c i]
    exact he (i + 1) H1)
  rw [show ((n : Int) + 1 - 1).toNat = n by omega, given_asc] at q
  exact q
theorem given_filt (l : List Nat) (S : Nat → Bool) : given l.length (fun i => S (l.getD i 0)) (fun i => V.int ((l.getD i 0 : Nat) : Int)) = nv (l.filter S) := by
  have key : ∀ k, k ≤ l.length → given k (fun i => S (l.getD i 0)) (fun i => V.int ((l.getD i 0 : Nat) : Int)) = nv ((l.take k).filter S) := by
    intro k
    induction k with
    | zero => intro _; simp [given, nv]
    | succ k ih =>
      intro hk
      have e : l.take (k + 1) = l.take k ++ [l.getD k 0] := by
        rw [List.take_succ, List.getD_eq_getElem?_getD]
        have : l[k]? = some (l[k]'(by omega)) := List.getElem?_eq_getElem (by omega)
        rw [this]
        rfl
      rw [e, List.filter_append]
      cases h : S (l.getD k 0) with
      | true =>
        rw [given_yes (f := fun i => S (l.getD i 0)) h, ih (by omega)]
        simp only [nv, List.map_append, List.filter_cons, h, if_true, List.filter_nil, List.map_cons, List.map_nil]
      | false =>
        rw [given_no (f := fun i => S (l.getD i 0)) h, ih (by omega)]
        simp only [nv, List.map_append, List.filter_cons, h, List.filter_nil, List.map_nil, List.append_nil, Bool.false_eq_true, if_false]
  have := key l.length (Nat.le_refl _)
  rw [List.take_length] at this
  exact this
theorem el_filtL {a : Addr} {l : List Nat} {tl : TE} {j : Nat} {vs : List Nat} (S : Nat → Bool) (h : Ev tl σ H (.ref a)) (hx : SqL K H a (nv l)) (hz : l.length ≤ 40000) (hw : ∀ x, wipe ((wipe σ vs).set j (some x)) vs = wipe σ vs)
    (ht : ∀ (o : Nat), o ∈ l → EvT t ((wipe σ vs).set j (some (.int (o : Int)))) H (S o)) (he : ∀ (o : Nat) H1, Ev te ((wipe σ vs).set j (some (.int (o : Int)))) H1 (.int (o : Int))) :
    EvL (tLc (iList K tl) (gName j) t te vs) σ H (nv (l.filter S)) := by
  have q := el_lcL (t := t) (te := te) (j := j) (vs := vs) (fun i => S (l.getD i 0)) (fun i => V.int ((l.getD i 0 : Nat) : Int)) h hx (by rw [nv_len]; exact hz) hw (fun i x H1 e hi => by
    obtain ⟨n, hn, rfl⟩ := nv_get hi
    rw [show l.getD i 0 = n by rw [List.getD_eq_getElem?_getD, hn]; rfl]
    exact (ht n (List.mem_of_getElem? hn)).mono e) (fun i x H1 e hi _ => by
    obtain ⟨n, hn, rfl⟩ := nv_get hi
    rw [show l.getD i 0 = n by rw [List.getD_eq_getElem?_getD, hn]; rfl]
    exact he n H1)
  rw [nv_len, given_filt] at q
  exact q
theorem el_filtT {a : Addr} {l : List Nat} {tl : TE} {j : Nat} {vs : List Nat} (S : Nat → Bool) (h : Ev tl σ H (.ref a)) (hx : SqT K H a (nv l)) (hz : l.length ≤ 40000) (hw : ∀ x, wipe ((wipe σ vs).set j (some x)) vs = wipe σ vs)
    (ht : ∀ (o : Nat), o ∈ l → EvT t ((wipe σ vs).set j (some (.int (o : Int)))) H (S o)) (he : ∀ (o : Nat) H1, Ev te ((wipe σ vs).set j (some (.int (o : Int)))) H1 (.int (o : Int))) :
    EvL (tLc (iTup K tl) (gName j) t te vs) σ H (nv (l.filter S)) := by
  have q := el_lcT (t := t) (te := te) (j := j) (vs := vs) (fun i => S (l.getD i 0)) (fun i => V.int ((l.getD i 0 : Nat) : Int)) h hx (by rw [nv_len]; exact hz) hw (fun i x H1 e hi => by
    obtain ⟨n, hn, rfl⟩ := nv_get hi
    rw [show l.getD i 0 = n by rw [List.getD_eq_getElem?_getD, hn]; rfl]
    exact (ht n (List.mem_of_getElem? hn)).mono e) (fun i x H1 e hi _ => by
    obtain ⟨n, hn, rfl⟩ := nv_get hi
    rw [show l.getD i 0 = n by rw [List.getD_eq_getElem?_getD, hn]; rfl]
    exact he n H1)
  rw [nv_len, given_filt] at q
  exact q
/-- o in xs, o not in xs -/
theorem ev_inN {p : Addr} {l : List Nat} {o : Nat} (ha : Ev ta σ H (.int (o : Int))) (hb : Ev tb σ H (.ref p)) (h : SqL K H p (nv l) ∨ SqT K H p (nv l)) : Ev (tOp (rIn K false) ta tb) σ H (.bl (decide (o ∈ l))) := by
  refine ev_op ha hb ?_
  rw [← inV_nv]
  rcases h with h | h
  · exact rv_isL h rfl (nv_flat l)
  · exact rv_isT h rfl (nv_flat l)
theorem ev_niN {p : Addr} {l : List Nat} {o : Nat} (ha : Ev ta σ H (.int (o : Int))) (hb : Ev tb σ H (.ref p)) (h : SqL K H p (nv l) ∨ SqT K H p (nv l)) : Ev (tOp (rIn K true) ta tb) σ H (.bl (!decide (o ∈ l))) := by
  refine ev_op ha hb ?_
  rw [← inV_nv]
  rcases h with h | h
  · exact rv_niL h rfl (nv_flat l)
  · exact rv_niT h rfl (nv_flat l)
/-- len([..]) > 0 -/
theorem et_some {xs : List V} {b : Bool} (h : EvL te σ H xs) (e : (!xs.isEmpty) = b) : Ev (tOp (rI0 fun i j => .bl (decide (j < i))) (tCB (rLenS K) (tCons te tNil)) (tC (.int 0))) σ H (.bl b) := by
  have q := ev_op (ev_lenN (K := K) h) (ev_c (v := .int 0)) (rv_I0 (g := fun i j => V.bl (decide (j < i))))
  have e2 : decide ((0 : Int) < (xs.length : Int)) = b := by
    rw [← e]
    cases xs with
    | nil => rfl
    | cons y ys => simp
  rw [e2] at q
  exact q
theorem nv_empty (l : List Nat) : (nv l).isEmpty = l.isEmpty := by cases l <;> rfl
theorem filt_empty (l : List Nat) (S : Nat → Bool) : (!(l.filter S).isEmpty) = l.any S := by
  induction l with
  | nil => rfl
  | cons a l ih =>
    rw [List.filter_cons, List.any_cons]
    cases h : S a with
    | true => simp
    | false => simpa using ih
theorem given_all (n : Nat) (v : Nat → V) : given n (fun _ => true) v = (List.range n).map v := by
  unfold given
  rw [List.filter_eq_self.mpr (fun _ _ => rfl)]
theorem given_any (n : Nat) (f : Nat → Bool) (v : Nat → V) : (!(given n f v).isEmpty) = (List.range n).any f := by
  unfold given
  rw [List.isEmpty_map]
  generalize List.range n = l
  induction l with
  | nil => rfl
  | cons a l ih =>
    rw [List.filter_cons, List.any_cons]
    cases h : f a with
    | true => simp
    | false => simpa using ih
theorem range_map_getD {α β : Type} (l : List α) (d : α) (g : α → β) : (List.range l.length).map (fun i => g (l.getD i d)) = l.map g := by
  apply List.ext_getElem
  · simp
  · intro i h1 h2
    simp only [List.length_map, List.length_range] at h1
    simp [List.getD_eq_getElem?_getD, h1]
theorem range_any_getD {α : Type} (l : List α) (d : α) (p : α → Bool) : (List.range l.length).any (fun i => p (l.getD i d)) = l.any p := by
  have h := range_map_getD l d p
  have e1 : (List.range l.length).any (fun i => p (l.getD i d)) = ((List.range l.length).map (fun i => p (l.getD i d))).any id := by rw [List.any_map]; rfl
  have e2 : l.any p = (l.map p).any id := by rw [List.any_map]; rfl
  rw [e1, e2, h]
theorem inV_int (c : Int) (l : List Int) : inV (.int c) (l.map V.int) = decide (c ∈ l) := by
  unfold inV
  induction l with
  | nil => simp
  | cons a l ih =>
    rw [List.map_cons, List.any_cons, ih]
    show ((a == c) || decide (c ∈ l)) = decide (c ∈ a :: l)
    by_cases h : a = c
    · subst h; simp
    · have h' : ¬ c = a := fun e => h e.symm
      simp [h, h']
theorem ints_flat (l : List Int) : (l.map V.int).all flatV = true := by
  rw [List.all_eq_true]
  intro x hx
  obtain ⟨n, _, rfl⟩ := List.mem_map.mp hx
  rfl
/-- the first parts of the tuples -/
theorem ev_first {tt : Addr} {p : Int × Int} (ha : Ev ta σ H (.ref tt)) (h : H tt = some (.tup [.int p.1, .int p.2])) : Ev (tOp (rIxT K) ta (tC (.int 0))) σ H (.int p.1) := ev_op ha ev_c (rv_ixT (SqT.of h) rfl)
theorem el_firsts {a : Addr} {ts : List Addr} {wr : List (Int × Int)} {tl : TE} {j : Nat} {vs : List Nat} (h : Ev tl σ H (.ref a)) (hx : SqL K H a (ts.map V.ref)) (hT : Tups H ts wr) (hz : wr.length ≤ 40000) (hw : ∀ x, wipe ((wipe σ vs).set j (some x)) vs = wipe σ vs)
    (hj : ∀ x : V, ((wipe σ vs).set j (some x))[j]? = some (some x)) :
    EvL (tLc (iList K tl) (gName j) tYes (tOp (rIxT K) (tVar j) (tC (.int 0))) vs) σ H ((wr.map (·.1)).map V.int) := by
  have q := el_lcL (t := tYes) (te := tOp (rIxT K) (tVar j) (tC (.int 0))) (j := j) (vs := vs) (fun _ => true) (fun i => V.int ((wr.getD i (0, 0)).1)) h hx (by rw [List.length_map, hT.len]; exact hz) hw (fun i x H1 e hi => fun H2 _ Q q => q H2 (Ex.refl _)) (fun i x H1 e hi _ => by
    rw [List.getElem?_map] at hi
    cases e1 : ts[i]? with
    | none => rw [e1] at hi; cases hi
    | some tt =>
      rw [e1] at hi
      cases hi
      obtain ⟨p, hp, ht⟩ := hT.get e1
      rw [show wr.getD i (0, 0) = p by rw [List.getD_eq_getElem?_getD, hp]; rfl]
      exact (ev_first (ev_var (hj _)) ht).mono e)
  rw [given_all, List.length_map, hT.len, range_map_getD wr (0, 0) (fun p => V.int p.1)] at q
  rw [List.map_map]
  exact q
/-- tuple(xs), xs a new list -/
theorem eu_tupOf {xs : List V} (h : EvL te σ H xs) : EvU (tCB (rTupOf K) (tCons te tNil)) σ H xs := fun H1 e Q q =>
  h H1 e _ fun p H2 hp e2 h2 => ⟨p, xs, rfl, .inl ⟨SqL.of h2, fun l hl => q l _ (fresh_back e2 hl) (e2.trans (Ex.new hl)) upd_same⟩⟩
end
end K27
set_option Elab.async false
set_option linter.all false
set_option maxRecDepth 100000
set_option maxHeartbeats 4000000
/-! K27W2: what the model needs and bars. -/
namespace K27
open PySem PySem.Spec PyProof.Rows L2 Evl
local macro_rules | `(tactic| walk_at "rd") => `(tactic| repeat (first | refine ⟨_, _, rfl, rfl, ?_⟩ | refine ⟨_, rfl, ?_⟩ | refine ⟨_, _, _, _, rfl, rfl, SqL.of (by assumption), rfl, ?_⟩ | refine Or.inl ⟨_, rfl, ?_⟩ | refine ⟨Or.inl (by decide), ?_⟩ | refine ⟨(by decide : _ ≠ _), ?_⟩))
section
variable {w : World} {K : PySem.W.Frag} {mg : Str → Option Value} {base : Heap}
theorem sc_l_needs : FnScope ["_law_model_here", "_law_demands", "_law_other", "_law_one"] ["_law_model_here", "_law_demands"] (defScope s_l_needs) := ⟨rfl, rfl, rfl, by decide +kernel, rfl, by decide +kernel, by decide +kernel⟩
def needB (A : Ab) (dem : List Nat) (o : Nat) : Bool := decide (o ∈ dem) || (dem.any fun d => A.R d o)
theorem needB_iff {A : Ab} {dem : List Nat} {o : Nat} : needB A dem o = true ↔ NeedP A dem o := by
  unfold needB NeedP
  rw [Bool.or_eq_true, decide_eq_true_iff, List.any_eq_true]
theorem mem3 {A : Ab} (G : Good A) {x o : Nat} : decide (o ∈ asc A.n (A.R x)) = A.R x o := by
  cases h : A.R x o with
  | true =>
    have q := G.r_lt x o h
    have q2 := G.rrng x o h
    exact decide_eq_true (mem_asc.mpr ⟨⟨q.1, by omega⟩, h⟩)
  | false => exact decide_eq_false fun q => by have := (mem_asc.mp q).2; rw [h] at this; cases this
theorem mem4 {A : Ab} (G : Good A) {x o : Nat} : decide (o ∈ asc A.n (A.B x)) = A.B x o := by
  cases h : A.B x o with
  | true =>
    have q := G.brng o x (by rw [G.sym]; exact h)
    exact decide_eq_true (mem_asc.mpr ⟨q, h⟩)
  | false => exact decide_eq_false fun q => by have := (mem_asc.mp q).2; rw [h] at this; cases this
/-- a new list of numbers -/
def RetN (l : List Nat) (H : Hp) (Q : VK) : Prop := RetL (nv l) H Q
def spNeeds (T : Bool) (K : PySem.W.Frag) : Sp := fun vs H Q _ => ∃ (L : Lay) (A : Ab) (d : Addr) (dem : List Nat), vs = [.ref L.m, .ref d] ∧ Md H L A ∧ Good A ∧ (if T then SqT K H d (nv dem) else SqL K H d (nv dem)) ∧ dem.length ≤ 1000 ∧ (∀ x ∈ dem, 1 ≤ x ∧ x ≤ A.n) ∧ RetL (nv (asc A.n (needB A dem))) H Q
theorem ok_l_needs (T : Txt K mg) : OkC PP w K mg base CX0 1 ("_law_needs", none) ["_law_model_here", "_law_demands"] (spNeeds false K) :=
  ok0 T.F_l_needs sc_l_needs (fun _ _ _ _ _ _ us hl => match us, hl with | [_, _], _ => rfl) (by rintro vs H Q E ⟨L, A, d, dem, rfl, _⟩; rfl) fun f cdv A0 outer s0 H vs Q E hr h => by
    obtain ⟨L, A, d, dem, rfl, hM, hG, hd, hz, hD, k⟩ := h
    have hd : SqL K H d (nv dem) := hd
    refine ⟨_, (pss_one (ps_ret (pe_lc (own := [("_law_other", 2)]) (g := gName 2) (by rfl) sc_l_needs.nd (pi_range2 (by rfl) T.z_range (pa_cons pe_int (pa_cons (pe_callB (call_lenK (K := K)) (by rfl) T.z_len (by decide +kernel) (pa_cons (pe_ix (ix_listK (K := K)) (pv 0) pe_int (fun _ _ => rfl)) pa_nil)) pa_nil))) (blkOk_by (by rfl)) (fun _ _ _ _ _ => pg_name (i := 2) sc_l_needs.nd rfl (by first | exact Or.inl rfl | exact Or.inr rfl)) (fun _ _ _ _ _ => (pts_one (PW.pt (pw_or (pt_cmpR (op_inK (K := K)) (pv 2) (pv 1) (by rfl)) (pw_or1 (pt_cmpR op_gt (pe_callB (call_lenK (K := K)) (by rfl) T.z_len (by decide +kernel) (pa_cons (pe_lc (own := [("_law_one", 3)]) (g := gName 3) (by rfl) sc_l_needs.nd (pi_listK (K := K) (pv 1)) (blkOk_by (by rfl)) (fun _ _ _ _ _ => pg_name (i := 3) sc_l_needs.nd rfl (by first | exact Or.inl rfl | exact Or.inr rfl)) (fun _ _ _ _ _ => (pts_one (pt_cmpR (op_inK (K := K)) (pv 2) (pe_ix (ix_listK (K := K)) (pe_ix (ix_listK (K := K)) (pv 0) pe_int (fun _ _ => rfl)) (pv 3) (fun _ _ => rfl)) (by rfl)))) (fun _ _ _ _ _ => (pv 3))) pa_nil)) pe_int (nomark _))))))) (fun _ _ _ _ _ => (pv 2))))), ?_⟩
    refine s_retL (el_asc (n := A.n) (needB A dem) (ea_cons ev_c (ea_cons (ev_len1 hM (ev_var rfl)) ea_nil)) rfl (Nat.le_trans hM.nmax (by decide)) (fun _ => rfl) (fun o h1 h2 => ?_) (fun o H1 => ev_var rfl)) k
    refine et_or (et_test (ev_inN (ev_var rfl) (ev_var rfl) (.inl hd))) fun _ => et_test (et_some (el_filtL (fun d => A.R d o) (ev_var rfl) hd (by omega) (fun _ => rfl) (fun x hx => ?_) (fun o H1 => ev_var rfl)) ?_)
    · have hx2 := hD x hx
      exact et_test (ev_is (ev_inN (ev_var rfl) (ev_inn hM five3 (ev_var rfl) (ev_var rfl) hx2.2) (.inl (SqL.of (hM.i3 x hx2.2)))) (by rw [mem3 hG]))
    · rw [nv_empty, filt_empty]
theorem ok_l_needsT (T : Txt K mg) : OkC PP w K mg base CX0 1 ("_law_needs", none) ["_law_model_here", "_law_demands"] (spNeeds true K) :=
  ok0 T.F_l_needs sc_l_needs (fun _ _ _ _ _ _ us hl => match us, hl with | [_, _], _ => rfl) (by rintro vs H Q E ⟨L, A, d, dem, rfl, _⟩; rfl) fun f cdv A0 outer s0 H vs Q E hr h => by
    obtain ⟨L, A, d, dem, rfl, hM, hG, hd, hz, hD, k⟩ := h
    have hd : SqT K H d (nv dem) := hd
    refine ⟨_, (pss_one (ps_ret (pe_lc (own := [("_law_other", 2)]) (g := gName 2) (by rfl) sc_l_needs.nd (pi_range2 (by rfl) T.z_range (pa_cons pe_int (pa_cons (pe_callB (call_lenK (K := K)) (by rfl) T.z_len (by decide +kernel) (pa_cons (pe_ix (ix_listK (K := K)) (pv 0) pe_int (fun _ _ => rfl)) pa_nil)) pa_nil))) (blkOk_by (by rfl)) (fun _ _ _ _ _ => pg_name (i := 2) sc_l_needs.nd rfl (by first | exact Or.inl rfl | exact Or.inr rfl)) (fun _ _ _ _ _ => (pts_one (PW.pt (pw_or (pt_cmpR (op_inK (K := K)) (pv 2) (pv 1) (by rfl)) (pw_or1 (pt_cmpR op_gt (pe_callB (call_lenK (K := K)) (by rfl) T.z_len (by decide +kernel) (pa_cons (pe_lc (own := [("_law_one", 3)]) (g := gName 3) (by rfl) sc_l_needs.nd (pi_tupK (K := K) (pv 1)) (blkOk_by (by rfl)) (fun _ _ _ _ _ => pg_name (i := 3) sc_l_needs.nd rfl (by first | exact Or.inl rfl | exact Or.inr rfl)) (fun _ _ _ _ _ => (pts_one (pt_cmpR (op_inK (K := K)) (pv 2) (pe_ix (ix_listK (K := K)) (pe_ix (ix_listK (K := K)) (pv 0) pe_int (fun _ _ => rfl)) (pv 3) (fun _ _ => rfl)) (by rfl)))) (fun _ _ _ _ _ => (pv 3))) pa_nil)) pe_int (nomark _))))))) (fun _ _ _ _ _ => (pv 2))))), ?_⟩
    refine s_retL (el_asc (n := A.n) (needB A dem) (ea_cons ev_c (ea_cons (ev_len1 hM (ev_var rfl)) ea_nil)) rfl (Nat.le_trans hM.nmax (by decide)) (fun _ => rfl) (fun o h1 h2 => ?_) (fun o H1 => ev_var rfl)) k
    refine et_or (et_test (ev_inN (ev_var rfl) (ev_var rfl) (.inr hd))) fun _ => et_test (et_some (el_filtT (fun d => A.R d o) (ev_var rfl) hd (by omega) (fun _ => rfl) (fun x hx => ?_) (fun o H1 => ev_var rfl)) ?_)
    · have hx2 := hD x hx
      exact et_test (ev_is (ev_inN (ev_var rfl) (ev_inn hM five3 (ev_var rfl) (ev_var rfl) hx2.2) (.inl (SqL.of (hM.i3 x hx2.2)))) (by rw [mem3 hG]))
    · rw [nv_empty, filt_empty]
theorem sc_l_bars : FnScope ["_law_model_here", "_law_writes_here", "_law_needs_here", "_law_quarrels", "_law_hit", "_law_other", "_law_shared", "_law_drawn_in", "_law_pair_here", "_law_one", "_law_mine"] ["_law_model_here", "_law_writes_here", "_law_needs_here", "_law_quarrels"] (defScope s_l_bars) := ⟨rfl, rfl, rfl, by decide +kernel, rfl, by decide +kernel, by decide +kernel⟩
def hitB (A : Ab) (w : List (Int × Int)) (N qua : List Nat) (o : Nat) : Bool := decide (o ∈ qua) || ((N.any fun x => A.B x o) || ((A.ws o).any (fun p => decide (p.1 ∈ w.map (·.1))) && !decide (o ∈ N)))
def barB (A : Ab) (w : List (Int × Int)) (N qua : List Nat) (o : Nat) : Bool := hitB A w N qua o || ((asc A.n (A.R o)).any fun q => hitB A w N qua q)
def spBars (K : PySem.W.Frag) : Sp := fun vs H Q _ => ∃ (L : Lay) (A : Ab) (wa na qa : Addr) (ts : List Addr) (wr : List (Int × Int)) (N qua : List Nat), vs = [.ref L.m, .ref wa, .ref na, .ref qa] ∧ Md H L A ∧ Good A ∧ SqL K H wa (ts.map V.ref) ∧ Tups H ts wr ∧ wr.length ≤ 2 ∧ SqL K H na (nv N) ∧ SqL K H qa (nv qua) ∧ N.length ≤ 1000 ∧ qua.length ≤ 1000 ∧ (∀ x ∈ N, 1 ≤ x ∧ x ≤ A.n) ∧ RetL (nv (asc A.n (barB A wr N qua))) H Q
theorem ok_l_bars (T : Txt K mg) : OkC PP w K mg base CX0 1 ("_law_bars", none) ["_law_model_here", "_law_writes_here", "_law_needs_here", "_law_quarrels"] (spBars K) :=
  ok0 T.F_l_bars sc_l_bars (fun _ _ _ _ _ _ us hl => match us, hl with | [_, _, _, _], _ => rfl) (by rintro vs H Q E ⟨L, A, wa, na, qa, ts, wr, N, qua, rfl, _⟩; rfl) fun f cdv A0 outer s0 H vs Q E hr h => by
    obtain ⟨L, A, wa, na, qa, ts, wr, N, qua, rfl, hM, hG, hw, hT, hwl, hN, hq, hNz, hqz, hNr, k⟩ := h
    refine ⟨_, (pss_cons (ps_set (i := 4) sc_l_bars.nd rfl (Or.inr rfl) (pe_lst pa_nil)) (pss_cons (ps_for PassesOwn.never rfl (pi_range2 (by rfl) T.z_range (pa_cons pe_int (pa_cons (pe_callB (call_lenK (K := K)) (by rfl) T.z_len (by decide +kernel) (pa_cons (pe_ix (ix_listK (K := K)) (pv 0) pe_int (fun _ _ => rfl)) pa_nil)) pa_nil))) (pg_name (i := 5) sc_l_bars.nd rfl (Or.inr rfl)) (pss_cons (ps_set (i := 6) sc_l_bars.nd rfl (Or.inl rfl) (pe_cmpR op_gt (pe_callB (call_lenK (K := K)) (by rfl) T.z_len (by decide +kernel) (pa_cons (pe_lc (own := [("_law_pair_here", 8)]) (g := gName 8) (by rfl) sc_l_bars.nd (pi_listK (K := K) (pe_ix (ix_listK (K := K)) (pe_ix (ix_listK (K := K)) (pv 0) pe_int (fun _ _ => rfl)) (pv 5) (fun _ _ => rfl))) (blkOk_by (by rfl)) (fun _ _ _ _ _ => pg_name (i := 8) sc_l_bars.nd rfl (by first | exact Or.inl rfl | exact Or.inr rfl)) (fun _ _ _ _ _ => (pts_one (pt_cmpR (op_inK (K := K)) (pe_ix (ix_tupK (K := K)) (pv 8) pe_int (fun _ _ => rfl)) (pe_lc (own := [("_law_mine", 10)]) (g := gName 10) (by rfl) sc_l_bars.nd (pi_listK (K := K) (pv 1)) (blkOk_by (by rfl)) (fun _ _ _ _ _ => pg_name (i := 10) sc_l_bars.nd rfl (by first | exact Or.inl rfl | exact Or.inr rfl)) (fun _ _ _ _ _ => pts_nil) (fun _ _ _ _ _ => (pe_ix (ix_tupK (K := K)) (pv 10) pe_int (fun _ _ => rfl)))) (by rfl)))) (fun _ _ _ _ _ => (pv 8))) pa_nil)) pe_int (nomark _))) (pss_cons (ps_set (i := 7) sc_l_bars.nd rfl (Or.inl rfl) (pe_cmpR op_gt (pe_callB (call_lenK (K := K)) (by rfl) T.z_len (by decide +kernel) (pa_cons (pe_lc (own := [("_law_one", 9)]) (g := gName 9) (by rfl) sc_l_bars.nd (pi_listK (K := K) (pv 2)) (blkOk_by (by rfl)) (fun _ _ _ _ _ => pg_name (i := 9) sc_l_bars.nd rfl (by first | exact Or.inl rfl | exact Or.inr rfl)) (fun _ _ _ _ _ => (pts_one (pt_cmpR (op_inK (K := K)) (pv 5) (pe_ix (ix_listK (K := K)) (pe_ix (ix_listK (K := K)) (pv 0) pe_int (fun _ _ => rfl)) (pv 9) (fun _ _ => rfl)) (by rfl)))) (fun _ _ _ _ _ => (pv 9))) pa_nil)) pe_int (nomark _))) (pss_one (ps_if (PW.pt (pw_or (pt_cmpR (op_inK (K := K)) (pv 5) (pv 3) (by rfl)) (pw_or (pt_val (pv 7)) (pw_or1 (PW.pt (pw_and (pt_val (pv 6)) (pw_and1 (pt_cmpR (op_niK (K := K)) (pv 5) (pv 2) (by rfl))))))))) (pss_one (ps_expr (pe_appK (K := K) (pv 4) (pa_cons (pv 5) pa_nil)))) pss_nil))))) (pss_one (ps_ret (pe_lc (own := [("_law_other", 5)]) (g := gName 5) (by rfl) sc_l_bars.nd (pi_range2 (by rfl) T.z_range (pa_cons pe_int (pa_cons (pe_callB (call_lenK (K := K)) (by rfl) T.z_len (by decide +kernel) (pa_cons (pe_ix (ix_listK (K := K)) (pv 0) pe_int (fun _ _ => rfl)) pa_nil)) pa_nil))) (blkOk_by (by rfl)) (fun _ _ _ _ _ => pg_name (i := 5) sc_l_bars.nd rfl (by first | exact Or.inl rfl | exact Or.inr rfl)) (fun _ _ _ _ _ => (pts_one (PW.pt (pw_or (pt_cmpR (op_inK (K := K)) (pv 5) (pv 4) (by rfl)) (pw_or1 (pt_cmpR op_gt (pe_callB (call_lenK (K := K)) (by rfl) T.z_len (by decide +kernel) (pa_cons (pe_lc (own := [("_law_one", 9)]) (g := gName 9) (by rfl) sc_l_bars.nd (pi_listK (K := K) (pe_ix (ix_listK (K := K)) (pe_ix (ix_listK (K := K)) (pv 0) pe_int (fun _ _ => rfl)) (pv 5) (fun _ _ => rfl))) (blkOk_by (by rfl)) (fun _ _ _ _ _ => pg_name (i := 9) sc_l_bars.nd rfl (by first | exact Or.inl rfl | exact Or.inr rfl)) (fun _ _ _ _ _ => (pts_one (pt_cmpR (op_inK (K := K)) (pv 9) (pv 4) (by rfl)))) (fun _ _ _ _ _ => (pv 9))) pa_nil)) pe_int (nomark _))))))) (fun _ _ _ _ _ => (pv 5))))))), ?_⟩
    refine q_asgL (xs := []) (el_lst ea_nil (by decide)) fun ph H1 nh e1 hh => ?_
    refine q_forR2 (lo := 1) (n := (A.n : Int) + 1) (ea_cons ev_c (ea_cons (ev_len1 (hM.ex e1) (ev_var rfl)) ea_nil)) ⟨by omega, by omega, by omega, by have := hM.nmax; omega⟩
      (fun i σ H' => ∃ x y z, σ = [some (.ref L.m), some (.ref wa), some (.ref na), some (.ref qa), some (.ref ph), x, y, z, none, none, none] ∧ Ex H H' ∧ H' ph = some (.lst (nv (asc i (hitB A wr N qua))))) (fun H2 e2 => ⟨_, _, _, rfl, e1.trans e2, e2 _ _ hh⟩) (fun i σ H' hi => ?_) (fun σ H' => ?_)
    · rintro ⟨x, y, z, rfl, e, hp⟩
      have hi1 : i + 1 ≤ A.n := by omega
      have ec : (1 : Int) + (i : Int) = ((i + 1 : Nat) : Int) := by omega
      rw [ec]
      obtain ⟨ts2, ht2, hT2, _⟩ := hM.i1 (i + 1) hi1
      refine q_asg (v := .bl ((A.ws (i + 1)).any (fun p => decide (p.1 ∈ wr.map (·.1))))) (Ev.mono e (et_some (el_lcL (fun j => decide (((A.ws (i + 1)).getD j (0, 0)).1 ∈ wr.map (·.1))) (fun j => (ts2.map V.ref).getD j .non) (ev_inn hM five1 (ev_var rfl) (ev_var rfl) hi1) (SqL.of ht2) ?_ (fun _ => rfl) (fun j x2 H2 e2 hj => ?_) (fun j x2 H2 e2 hj _ => ev_var ?_)) ?_)) fun H2 e2 => ?_
      · rw [List.length_map, hT2.len]
        exact Nat.le_trans (hG.row (i + 1) (by omega) hi1).w.len (by decide)
      · rw [List.getElem?_map] at hj
        cases e4 : ts2[j]? with
        | none => rw [e4] at hj; cases hj
        | some tt =>
          rw [e4] at hj
          cases hj
          obtain ⟨p, hp2, htt⟩ := hT2.get e4
          rw [show (A.ws (i + 1)).getD j (0, 0) = p by rw [List.getD_eq_getElem?_getD, hp2]; rfl]
          refine EvT.mono e2 (et_test (ev_opL (ev_first (ev_var rfl) htt) (el_firsts (ev_var rfl) hw hT (by omega) (fun _ => rfl) (fun _ => rfl)) fun pl H3 hpl _ => ?_))
          rw [← inV_int]
          exact rv_isL (SqL.of hpl) rfl (ints_flat _)
      · rw [show (ts2.map V.ref).getD j .non = x2 by rw [List.getD_eq_getElem?_getD, hj]; rfl]
        rfl
      · rw [given_any, List.length_map, hT2.len]
        exact range_any_getD (A.ws (i + 1)) (0, 0) (fun p => decide (p.1 ∈ wr.map (·.1)))
      refine q_asg (v := .bl (N.any fun x => A.B x (i + 1))) (Ev.mono (e.trans e2) (et_some (el_filtL (fun x => A.B x (i + 1)) (ev_var rfl) hN (by omega) (fun _ => rfl) (fun x hx => ?_) (fun o H1 => ev_var rfl)) ?_)) fun H3 e3 => ?_
      · have hx2 := hNr x hx
        exact et_test (ev_is (ev_inN (ev_var rfl) (ev_inn hM five4 (ev_var rfl) (ev_var rfl) hx2.2) (.inl (SqL.of (hM.i4 x hx2.2)))) (by rw [mem4 hG]))
      · rw [nv_empty, filt_empty]
      have e13 := (e.trans e2).trans e3
      refine s_when (b := hitB A wr N qua (i + 1)) (EvT.mono e13 (et_or (et_test (ev_inN (ev_var rfl) (ev_var rfl) (.inl hq))) fun _ => et_or (et_B (ev_var rfl)) fun _ => et_and (et_B (ev_var rfl)) fun _ => et_test (ev_niN (ev_var rfl) (ev_var rfl) (.inl hN)))) (fun hb H4 e4 => ?_) (fun hb H4 e4 => ?_)
      · refine s_app (xs := nv (asc i (hitB A wr N qua))) (e4 _ _ (e3 _ _ (e2 _ _ hp))) (ev_var rfl) (ev_var rfl) ?_ fun H5 e5 => ⟨_, _, _, rfl, Ex.mut ((e13.trans e4).trans e5) nh, ?_⟩
        · rw [nv_len]
          have := asc_len i (hitB A wr N qua)
          have := hM.nmax
          omega
        · rw [asc_succ, if_pos hb]
          simp [nv, upd_same]
      · refine ⟨_, _, _, rfl, e13.trans e4, ?_⟩
        rw [asc_succ, if_neg (by rw [hb]; exact Bool.false_ne_true), List.append_nil]
        exact e4 _ _ (e3 _ _ (e2 _ _ hp))
    · rintro ⟨x, y, z, rfl, e, hp⟩
      rw [show ((A.n : Int) + 1 - 1).toNat = A.n by omega] at hp
      have hM' := hM.ex e
      refine s_retL (el_asc (n := A.n) (barB A wr N qua) (ea_cons ev_c (ea_cons (ev_len1 hM' (ev_var rfl)) ea_nil)) rfl (Nat.le_trans hM.nmax (by decide)) (fun _ => rfl) (fun o h1 h2 => ?_) (fun o H1 => ev_var rfl)) fun p H2 hp2 e2 h2 => k.go e hp2 e2 h2
      refine et_is (et_or (et_test (ev_inN (ev_var rfl) (ev_var rfl) (.inl (SqL.of hp)))) fun _ => et_test (et_some (el_filtL (hitB A wr N qua) (ev_inn hM' five3 (ev_var rfl) (ev_var rfl) h2) (SqL.of (hM'.i3 o h2)) ?_ (fun _ => rfl) (fun x hx => ?_) (fun o H1 => ev_var rfl)) rfl)) ?_
      · have := asc_len A.n (A.R o)
        have := hM.nmax
        omega
      · have hx2 := mem_asc.mp hx
        refine et_test (ev_is (ev_inN (ev_var rfl) (ev_var rfl) (.inl (SqL.of hp))) ?_)
        exact congrArg V.bl (by
          cases hh2 : hitB A wr N qua x with
          | true => exact decide_eq_true (mem_asc.mpr ⟨hx2.1, hh2⟩)
          | false => exact decide_eq_false fun q => by have := (mem_asc.mp q).2; rw [hh2] at this; cases this)
      · rw [nv_empty, filt_empty]
        unfold barB
        congr 1
        cases hh2 : hitB A wr N qua o with
        | true => exact decide_eq_true (mem_asc.mpr ⟨⟨h1, h2⟩, hh2⟩)
        | false => exact decide_eq_false fun q => by have := (mem_asc.mp q).2; rw [hh2] at this; cases this
end
end K27
set_option Elab.async false
set_option linter.all false
set_option maxRecDepth 100000
set_option maxHeartbeats 4000000
/-! K27W3: fits, all versions, the first pair, tuples. -/
namespace K27
open PySem PySem.Spec PyProof.Rows L2 Evl
local macro_rules | `(tactic| walk_at "rd") => `(tactic| repeat (first | refine ⟨_, _, rfl, rfl, ?_⟩ | refine ⟨_, rfl, ?_⟩ | refine ⟨_, _, _, _, rfl, rfl, SqL.of (by assumption), rfl, ?_⟩ | refine Or.inl ⟨_, rfl, ?_⟩ | refine ⟨Or.inl (by decide), ?_⟩ | refine ⟨(by decide : _ ≠ _), ?_⟩))
section
variable {w : World} {K : PySem.W.Frag} {mg : Str → Option Value} {base : Heap}
theorem sc_l_fits : FnScope ["_law_model_here", "_law_taken", "_law_number", "_law_other"] ["_law_model_here", "_law_taken", "_law_number"] (defScope s_l_fits) := ⟨rfl, rfl, rfl, by decide +kernel, rfl, by decide +kernel, by decide +kernel⟩
def spFits (K : PySem.W.Frag) : Sp := fun vs H Q _ => ∃ (L : Lay) (A : Ab) (ta : Addr) (v : List Nat) (o : Nat), vs = [.ref L.m, .ref ta, .int (o : Int)] ∧ Md H L A ∧ (SqL K H ta (nv v) ∨ SqT K H ta (nv v)) ∧ o ≤ A.n ∧ RetV (.bl (fits A v o)) H Q
theorem ok_l_fits (T : Txt K mg) : OkC PP w K mg base CX0 1 ("_law_fits", none) ["_law_model_here", "_law_taken", "_law_number"] (spFits K) :=
  ok0 T.F_l_fits sc_l_fits (fun _ _ _ _ _ _ us hl => match us, hl with | [_, _, _], _ => rfl) (by rintro vs H Q E ⟨L, A, ta, v, o, rfl, _⟩; rfl) fun f cdv A0 outer s0 H vs Q E hr h => by
    obtain ⟨L, A, ta, v, o, rfl, hM, hv, ho, k⟩ := h
    refine ⟨_, (pss_cons (ps_for PassesOwn.never rfl (pi_listK (K := K) (pe_ix (ix_listK (K := K)) (pe_ix (ix_listK (K := K)) (pv 0) pe_int (fun _ _ => rfl)) (pv 2) (fun _ _ => rfl))) (pg_name (i := 3) sc_l_fits.nd rfl (Or.inl rfl)) (pss_one (ps_if (pt_cmpR (op_niK (K := K)) (pv 3) (pv 1) (by rfl)) (pss_one (ps_ret pe_bl)) pss_nil))) (pss_cons (ps_for PassesOwn.never rfl (pi_listK (K := K) (pe_ix (ix_listK (K := K)) (pe_ix (ix_listK (K := K)) (pv 0) pe_int (fun _ _ => rfl)) (pv 2) (fun _ _ => rfl))) (pg_name (i := 3) sc_l_fits.nd rfl (Or.inl rfl)) (pss_one (ps_if (pt_cmpR (op_inK (K := K)) (pv 3) (pv 1) (by rfl)) (pss_one (ps_ret pe_bl)) pss_nil))) (pss_one (ps_ret pe_bl)))), ?_⟩
    refine q_forLn (ev_inn hM five3 (ev_var rfl) (ev_var rfl) ho) (SqL.of (hM.i3 o ho)) (fun i σ H' => ∃ x, σ = [some (.ref L.m), some (.ref ta), some (.int (o : Int)), x] ∧ Ex H H' ∧ ∀ j, j < i → ∀ y, (asc A.n (A.R o))[j]? = some y → v.contains y = true) (fun H1 e => ⟨_, rfl, e, fun j hj => by omega⟩) (fun i σ H' _ ⟨x, _, e, _⟩ => ex_l e (SqL.of (hM.i3 o ho))) (fun i x σ H' hx => ?_) (fun σ H' => ?_)
    · rintro ⟨x0, rfl, e, hi⟩
      obtain ⟨y, hy, rfl⟩ := nv_get hx
      refine s_when (EvT.mono e (et_test (ev_niN (ev_var rfl) (ev_var rfl) hv))) (fun hb H4 e4 => ?_) (fun hb H4 e4 => ?_)
      · refine s_ret ev_c fun H5 e5 => ?_
        have : fits A v o = false := by
          unfold fits
          rw [Bool.and_eq_false_iff]
          left
          rw [List.all_eq_false]
          exact ⟨y, List.mem_of_getElem? hy, by simpa using hb⟩
        rw [this] at k
        exact k _ ((e.trans e4).trans e5)
      · refine ⟨_, rfl, e.trans e4, fun j hj z hz => ?_⟩
        by_cases hji : j < i
        · exact hi j hji z hz
        · have : j = i := by omega
          subst this
          rw [hy] at hz
          cases hz
          simpa using hb
    · rintro ⟨x0, rfl, e, hi⟩
      have h1 : (asc A.n (A.R o)).all (fun y => v.contains y) = true := by
        rw [List.all_eq_true]
        intro y hy
        obtain ⟨j, hj, e⟩ := List.mem_iff_getElem.mp hy
        exact hi j (by rw [nv_len]; exact hj) y (by rw [List.getElem?_eq_getElem hj, e])
      have hM' := hM.ex e
      refine q_forLn (ev_inn hM' five4 (ev_var rfl) (ev_var rfl) ho) (SqL.of (hM'.i4 o ho)) (fun i σ H' => ∃ x, σ = [some (.ref L.m), some (.ref ta), some (.int (o : Int)), x] ∧ Ex H H' ∧ ∀ j, j < i → ∀ y, (asc A.n (A.B o))[j]? = some y → v.contains y = false) (fun H1 e1 => ⟨_, rfl, e.trans e1, fun j hj => by omega⟩) (fun i σ H' _ ⟨x, _, e, _⟩ => ex_l e (SqL.of (hM.i4 o ho))) (fun i x σ H' hx => ?_) (fun σ H' => ?_)
      · rintro ⟨x0, rfl, e, hi⟩
        obtain ⟨y, hy, rfl⟩ := nv_get hx
        refine s_when (EvT.mono e (et_test (ev_inN (ev_var rfl) (ev_var rfl) hv))) (fun hb H4 e4 => ?_) (fun hb H4 e4 => ?_)
        · refine s_ret ev_c fun H5 e5 => ?_
          have : fits A v o = false := by
            unfold fits
            rw [Bool.and_eq_false_iff]
            right
            rw [List.all_eq_false]
            exact ⟨y, List.mem_of_getElem? hy, by simpa using hb⟩
          rw [this] at k
          exact k _ ((e.trans e4).trans e5)
        · refine ⟨_, rfl, e.trans e4, fun j hj z hz => ?_⟩
          by_cases hji : j < i
          · exact hi j hji z hz
          · have : j = i := by omega
            subst this
            rw [hy] at hz
            cases hz
            simpa using hb
      · rintro ⟨x1, rfl, e2, hi⟩
        have h2 : (asc A.n (A.B o)).all (fun y => !v.contains y) = true := by
          rw [List.all_eq_true]
          intro y hy
          obtain ⟨j, hj, e⟩ := List.mem_iff_getElem.mp hy
          rw [hi j (by rw [nv_len]; exact hj) y (by rw [List.getElem?_eq_getElem hj, e])]
          rfl
        refine s_ret ev_c fun H5 e5 => ?_
        have : fits A v o = true := by
          unfold fits
          rw [h1, h2]
          rfl
        rw [this] at k
        exact k _ (e2.trans e5)
end
end K27
set_option Elab.async false
set_option linter.all false
set_option maxRecDepth 100000
set_option maxHeartbeats 4000000
/-! K27Ver: lists of tuples of numbers. -/
namespace K27
open PySem PySem.Spec PyProof.Rows L2 Evl
local macro_rules | `(tactic| walk_at "rd") => `(tactic| repeat (first | refine ⟨_, _, rfl, rfl, ?_⟩ | refine ⟨_, rfl, ?_⟩ | refine ⟨_, _, _, _, rfl, rfl, SqL.of (by assumption), rfl, ?_⟩ | refine Or.inl ⟨_, rfl, ?_⟩ | refine ⟨Or.inl (by decide), ?_⟩ | refine ⟨(by decide : _ ≠ _), ?_⟩))
def Tupz (H : Hp) : List Addr → List (List Nat) → Prop
  | [], [] => True
  | t :: ts, p :: ps => H t = some (.tup (nv p)) ∧ Tupz H ts ps
  | _, _ => False
theorem Tupz.len {H : Hp} : ∀ {ts : List Addr} {ps : List (List Nat)}, Tupz H ts ps → ts.length = ps.length
  | [], [], _ => rfl
  | _ :: _, _ :: _, h => congrArg (· + 1) (Tupz.len h.2)
  | [], _ :: _, h => h.elim
  | _ :: _, [], h => h.elim
theorem Tupz.get {H : Hp} : ∀ {ts : List Addr} {ps : List (List Nat)} {i : Nat} {t : Addr}, Tupz H ts ps → ts[i]? = some t → ∃ p, ps[i]? = some p ∧ H t = some (.tup (nv p))
  | _ :: _, p :: _, 0, t, h, e => by
    cases e
    exact ⟨p, rfl, h.1⟩
  | _ :: _, _ :: _, i + 1, t, h, e => Tupz.get (i := i) h.2 e
  | [], _, i, t, h, e => by cases e
  | _ :: _, [], i, t, h, e => h.elim
theorem Tupz.get' {H : Hp} : ∀ {ts : List Addr} {ps : List (List Nat)} {i : Nat} {p : List Nat}, Tupz H ts ps → ps[i]? = some p → ∃ t, ts[i]? = some t ∧ H t = some (.tup (nv p))
  | t :: _, p :: _, 0, _, h, e => by
    cases e
    exact ⟨t, rfl, h.1⟩
  | _ :: _, _ :: _, i + 1, _, h, e => Tupz.get' (i := i) h.2 e
  | [], [], i, p, h, e => by cases e
  | [], _ :: _, i, _, h, e => h.elim
  | _ :: _, [], i, p, h, e => by cases e
theorem Tupz.keep {H H' : Hp} : ∀ {ts : List Addr} {ps : List (List Nat)}, Tupz H ts ps → (∀ t ∈ ts, ∀ xs, H t = some (.tup xs) → H' t = some (.tup xs)) → Tupz H' ts ps
  | [], [], _, _ => trivial
  | _ :: _, _ :: _, h, k => ⟨k _ (.head _) _ h.1, Tupz.keep h.2 fun t ht => k t (.tail _ ht)⟩
  | [], _ :: _, h, _ => h.elim
  | _ :: _, [], h, _ => h.elim
theorem Tupz.ex {H H' : Hp} {ts : List Addr} {ps : List (List Nat)} (h : Tupz H ts ps) (e : Ex H H') : Tupz H' ts ps := h.keep fun _ _ _ q => e _ _ q
/-- a list changes: the tuples stand -/
theorem Tupz.upd {H : Hp} {ts : List Addr} {ps : List (List Nat)} {l : Addr} {xs ys : List V} (h : Tupz H ts ps) (hl : H l = some (.lst xs) ∨ H l = none) : Tupz (upd H l (.lst ys)) ts ps := h.keep fun t _ zs q => by
  rw [upd_ne]
  · exact q
  · intro e
    subst e
    rcases hl with hl | hl <;> rw [hl] at q <;> cases q
theorem Tupz.app {H : Hp} : ∀ {ts us : List Addr} {ps qs : List (List Nat)}, Tupz H ts ps → Tupz H us qs → Tupz H (ts ++ us) (ps ++ qs)
  | [], _, [], _, _, h => h
  | _ :: _, _, _ :: _, _, h, h' => ⟨h.1, Tupz.app h.2 h'⟩
  | [], _, _ :: _, _, h, _ => h.elim
  | _ :: _, _, [], _, h, _ => h.elim
theorem Tupz.one {H : Hp} {t : Addr} {p : List Nat} (h : H t = some (.tup (nv p))) : Tupz H [t] [p] := ⟨h, trivial⟩
section
variable {K : PySem.W.Frag} {σ : L2.St} {H H' : Hp} {ta tb te tx tm tk : TE} {t u : TT} {x y z v : V} {r : R2}
/-- a tuple, new or not | a new list of tuples -/
def EvW (te : TE) (σ : L2.St) (H : Hp) (xs : List V) : Prop := ∀ H1, Ex H H1 → ∀ Q : VK, (∀ p H2, Ex H1 H2 → H2 p = some (.tup xs) → Q (.ref p) H2) → te σ H1 Q
def EvZ (te : TE) (σ : L2.St) (H : Hp) (vs : List (List Nat)) : Prop := ∀ H1, Ex H H1 → ∀ Q : VK, (∀ p ps H2, H1 p = none → Ex H1 H2 → H2 p = some (.lst (ps.map V.ref)) → Tupz H2 ps vs → Q (.ref p) H2) → te σ H1 Q
def RetZ (vs : List (List Nat)) (H : Hp) (Q : VK) : Prop := ∀ p ps H2, H p = none → Ex H H2 → H2 p = some (.lst (ps.map V.ref)) → Tupz H2 ps vs → Q (.ref p) H2
theorem RetZ.go {vs : List (List Nat)} {Q : VK} (k : RetZ vs H Q) (e : Ex H H') {p : Addr} {ps : List Addr} {H2 : Hp} (hp : H' p = none) (e2 : Ex H' H2) (h : H2 p = some (.lst (ps.map V.ref))) (hT : Tupz H2 ps vs) : Q (.ref p) H2 := k p ps H2 (fresh_back e hp) (e.trans e2) h hT
theorem EvZ.mono {vs : List (List Nat)} (e : Ex H H') (h : EvZ te σ H vs) : EvZ te σ H' vs := fun H1 a Q q => h H1 (e.trans a) Q q
theorem EvW.mono {xs : List V} (e : Ex H H') (h : EvW te σ H xs) : EvW te σ H' xs := fun H1 a Q q => h H1 (e.trans a) Q q
theorem EvU.mono {xs : List V} (e : Ex H H') (h : EvU te σ H xs) : EvU te σ H' xs := fun H1 a Q q => h H1 (e.trans a) Q q
theorem ew_eu {xs : List V} (h : EvU te σ H xs) : EvW te σ H xs := fun H1 e Q q => h H1 e Q fun p H2 _ e2 h2 => q p H2 e2 h2
theorem ew_ev {xs : List V} {p : Addr} (h : Ev te σ H (.ref p)) (hp : H p = some (.tup xs)) : EvW te σ H xs := fun H1 e Q q => h H1 e Q fun H2 e2 => q p H2 e2 (e2 _ _ (e _ _ hp))
/-- a tuple and one more number -/
theorem ew_snoc {l : List Nat} {n : Nat} (ha : EvW ta σ H (nv l)) (hb : EvW tb σ H (nv [n])) (hz : l.length ≤ 1000) : EvW (tOp (rCatA K) ta tb) σ H (nv (l ++ [n])) := fun H1 e Q q =>
  ha H1 e _ fun p H2 e2 hp => hb H2 (e.trans e2) _ fun p2 H3 e3 hp2 => ⟨p, p2, nv l, nv [n], rfl, rfl, SqT.of (e3 _ _ hp), SqT.of hp2, by rw [nv_len, nv_len]; exact sz_of (by simp; omega), fun h0 => by
    refine q p2 H3 (e2.trans e3) ?_
    have : l = [] := by cases l with | nil => rfl | cons a l => cases h0
    subst this
    exact hp2, (fun _ h0 => by cases h0), fun _ _ p3 h3 => q p3 _ ((e2.trans e3).trans (Ex.new h3)) (by rw [upd_same]; simp [nv])⟩
def Cz (H : Hp) (f : Nat → Bool) (g : Nat → List Nat) (Dl : Addr) (i : Nat) (H' : Hp) : Prop := H Dl = none ∧ Ex H H' ∧ ∃ ps, H' Dl = some (.lst (ps.map V.ref)) ∧ Tupz H' ps (((List.range i).filter f).map g)
theorem cz_turn {f : Nat → Bool} {g : Nat → List Nat} {Dl : Addr} {i : Nat} {σ2 : L2.St} (p : Cz H f g Dl i H') (hi : i < 50000) (ht : EvT t σ2 H (f i)) (he : f i = true → EvW te σ2 H (nv (g i))) :
    t σ2 H' fun b H3 => if b = true then te σ2 H3 fun y H4 => ∃ acc, H4 Dl = some (.lst acc) ∧ acc.length < sizeLine ∧ Cz H f g Dl (i + 1) (upd H4 Dl (.lst (acc ++ [y]))) else Cz H f g Dl (i + 1) H3 := by
  obtain ⟨p1, p2, ps, p3, p4⟩ := p
  have hlen : ps.length ≤ i := by
    rw [p4.len, List.length_map]
    have := List.length_filter_le f (List.range i)
    rw [List.length_range] at this
    exact this
  refine ht H' p2 _ fun H3 e3 => it2 (fun hf => ?_) (fun hf => ?_)
  · refine he hf H3 (p2.trans e3) _ fun y H4 e4 hy => ⟨ps.map V.ref, e4 Dl _ (e3 Dl _ p3), sz_lt (by rw [List.length_map]; omega), p1, Ex.mut ((p2.trans e3).trans e4) p1, ps ++ [y], ?_, ?_⟩
    · rw [upd_same]; simp
    · refine Tupz.upd (xs := ps.map V.ref) ?_ (.inl (e4 Dl _ (e3 Dl _ p3)))
      rw [List.range_succ, List.filter_append, List.map_append, List.filter_cons, if_pos hf]
      exact Tupz.app (p4.ex (e3.trans e4)) (Tupz.one hy)
  · refine ⟨p1, p2.trans e3, ps, e3 Dl _ p3, ?_⟩
    rw [List.range_succ, List.filter_append, List.map_append, List.filter_cons, if_neg (by rw [hf]; exact Bool.false_ne_true)]
    simpa using p4.ex e3
theorem ez_lcR2 {ta : TA} {j : Nat} {vs : List Nat} {lo n : Int} (f : Nat → Bool) (g : Nat → List Nat) (h : EvA ta σ H [.int lo, .int n]) (hn : 0 ≤ lo ∧ lo ≤ 40000 ∧ -40000 ≤ n ∧ n ≤ 40000) (hw : ∀ x, wipe ((wipe σ vs).set j (some x)) vs = wipe σ vs)
    (ht : ∀ (i : Nat), lo + (i : Int) < n → EvT t ((wipe σ vs).set j (some (.int (lo + (i : Int))))) H (f i)) (he : ∀ (i : Nat), lo + (i : Int) < n → f i = true → EvW te ((wipe σ vs).set j (some (.int (lo + (i : Int))))) H (nv (g i))) :
    EvZ (tLc (iRng2 ta) (gName j) t te vs) σ H (((List.range (n - lo).toNat).filter f).map g) := fun H0 e Q q => h H0 e _ fun H1 e1 => ⟨lo, n, rfl, ⟨by omega, by omega, by omega, by omega⟩, fun Dl hD =>
  lc_range (lo := lo) (n := (n - lo).toNat) (Cz H1 f g Dl) ⟨hD, Ex.new hD, [], upd_same, trivial⟩ (fun i H' hi p => ⟨hw _, cz_turn p (by omega) ((ht i (by omega)).mono (e.trans e1)) (fun hf => (he i (by omega) hf).mono (e.trans e1))⟩) (fun H' p => by
    obtain ⟨p1, p2, ps, p3, p4⟩ := p
    exact q Dl ps H' (fresh_back e1 p1) (e1.trans p2) p3 p4)⟩
theorem ez_core {a : Addr} {xs : List V} {j : Nat} {vs : List Nat} {H1 : Hp} {Q : VK} (f : Nat → Bool) (g : Nat → List Nat) (e1 : Ex H H1) (hx : SqL K H1 a xs) (hz : xs.length ≤ 40000) (hw : ∀ x, wipe ((wipe σ vs).set j (some x)) vs = wipe σ vs)
    (ht : ∀ (i : Nat) (x : V), xs[i]? = some x → EvT t ((wipe σ vs).set j (some x)) H (f i)) (he : ∀ (i : Nat) (x : V), xs[i]? = some x → f i = true → EvW te ((wipe σ vs).set j (some x)) H (nv (g i)))
    (q : ∀ p ps H2, H1 p = none → Ex H1 H2 → H2 p = some (.lst (ps.map V.ref)) → Tupz H2 ps (((List.range xs.length).filter f).map g) → Q (.ref p) H2) (Dl : Addr) (hD : H1 Dl = none) :
    ∃ W : Nat → Nat → Hp → Prop, (∃ m, W 0 m (upd H1 Dl (.lst []))) ∧ ∀ i m H, W i m H →
      ((Itl K a).stop i H ∧ Q (.ref Dl) H) ∨ ((Itl K a).go i H ∧ ∃ Nx : Hp → Prop, (∀ H', Nx H' → ∃ m', m' < m ∧ W (i + 1) m' H') ∧ ∀ x H', (Itl K a).yld i H x H' → gName j x (wipe σ vs) H' fun σ2 H2 => wipe σ2 vs = wipe σ vs ∧ t σ2 H2 fun b H3 =>
        if b = true then te σ2 H3 fun y H4 => ∃ acc, H4 Dl = some (.lst acc) ∧ acc.length < sizeLine ∧ Nx (upd H4 Dl (.lst (acc ++ [y]))) else Nx H3) :=
  lc_list (xs := xs) (Qd := fun H => Q (.ref Dl) H) (Cz H1 f g Dl) ⟨hD, Ex.new hD, [], upd_same, trivial⟩ (fun i H' _ p => ex_l p.2.1 hx) (fun i x H' hi p => ⟨hw x, cz_turn p (by have := (List.getElem?_eq_some_iff.mp hi).1; omega) ((ht i x hi).mono e1) (fun hf => (he i x hi hf).mono e1)⟩)
    (fun H' p => by
      obtain ⟨p1, p2, ps, p3, p4⟩ := p
      exact q Dl ps H' p1 p2 p3 p4)
theorem ez_lcL {a : Addr} {xs : List V} {tl : TE} {j : Nat} {vs : List Nat} (f : Nat → Bool) (g : Nat → List Nat) (h : Ev tl σ H (.ref a)) (hx : SqL K H a xs) (hz : xs.length ≤ 40000) (hw : ∀ x, wipe ((wipe σ vs).set j (some x)) vs = wipe σ vs)
    (ht : ∀ (i : Nat) (x : V), xs[i]? = some x → EvT t ((wipe σ vs).set j (some x)) H (f i)) (he : ∀ (i : Nat) (x : V), xs[i]? = some x → f i = true → EvW te ((wipe σ vs).set j (some x)) H (nv (g i))) :
    EvZ (tLc (iList K tl) (gName j) t te vs) σ H (((List.range xs.length).filter f).map g) := fun H0 e Q q => h H0 e _ fun H1 e1 => ⟨a, rfl, ⟨xs, ex_l (e.trans e1) hx⟩, ez_core f g (e.trans e1) (ex_l (e.trans e1) hx) hz hw ht he fun p ps H2 hp e2 h2 hT => q p ps H2 (fresh_back e1 hp) (e1.trans e2) h2 hT⟩
/-- over the book's numbers -/
theorem ez_lcB {a l : Addr} {xs : List V} {tl : TE} {j : Nat} {vs : List Nat} (f : Nat → Bool) (g : Nat → List Nat) (h : Ev tl σ H (.ref a)) (hx : BkN K H a l xs) (hz : xs.length ≤ 40000) (hw : ∀ x, wipe ((wipe σ vs).set j (some x)) vs = wipe σ vs)
    (ht : ∀ (i : Nat) (x : V), xs[i]? = some x → EvT t ((wipe σ vs).set j (some x)) H (f i)) (he : ∀ (i : Nat) (x : V), xs[i]? = some x → f i = true → EvW te ((wipe σ vs).set j (some x)) H (nv (g i))) :
    EvZ (tLc (iBook K tl) (gName j) t te vs) σ H (((List.range xs.length).filter f).map g) := fun H0 e Q q => h H0 e _ fun H1 e1 => by
  obtain ⟨dx, fs, h1, h2, h3⟩ := hx
  have ee := e.trans e1
  exact ⟨a, l, xs, rfl, ⟨dx, fs, ee _ _ h1, h2, ee _ _ h3⟩, ez_core f g ee (SqL.of (ee _ _ h3)) hz hw ht he fun p ps H2 hp e2 h2 hT => q p ps H2 (fresh_back e1 hp) (e1.trans e2) h2 hT⟩
theorem range_fm {α β : Type} (l : List α) (d : α) (p : α → Bool) (g : α → β) : ((List.range l.length).filter (fun i => p (l.getD i d))).map (fun i => g (l.getD i d)) = (l.filter p).map g := by
  have h := range_map_getD l d (fun a => (p a, g a))
  have e1 : ∀ (m : List Nat), (m.filter (fun i => p (l.getD i d))).map (fun i => g (l.getD i d)) = ((m.map (fun i => (p (l.getD i d), g (l.getD i d)))).filter (·.1)).map (·.2) := by
    intro m
    induction m with
    | nil => rfl
    | cons a m ih =>
      rw [List.filter_cons, List.map_cons, List.filter_cons]
      by_cases hp : p (l.getD a d) = true
      · rw [if_pos hp, if_pos hp, List.map_cons, List.map_cons, ih]
      · rw [if_neg hp, if_neg hp, ih]
  have e2 : ∀ (m : List α), (m.filter p).map g = ((m.map (fun a => (p a, g a))).filter (·.1)).map (·.2) := by
    intro m
    induction m with
    | nil => rfl
    | cons a m ih =>
      rw [List.filter_cons, List.map_cons, List.filter_cons]
      by_cases hp : p a = true
      · rw [if_pos hp, if_pos hp, List.map_cons, List.map_cons, ih]
      · rw [if_neg hp, if_neg hp, ih]
  rw [e1, h, ← e2]
/-- xs + ys, the right one new -/
theorem ez_cat {us vs : List (List Nat)} (ha : EvZ ta σ H us) (hb : EvZ tb σ H vs) (hz : us.length + vs.length ≤ 50000) : EvZ (tOp rCat ta tb) σ H (us ++ vs) := fun H1 e Q q =>
  ha H1 e _ fun p ps H2 hp e2 h2 hT => hb H2 (e.trans e2) _ fun p2 ps2 H3 hp2 e3 h3 hT2 => ⟨p, p2, _, _, rfl, rfl, e3 _ _ h2, h3, by rw [List.length_map, List.length_map, hT.len, hT2.len]; exact sz_of (by omega), fun r hr =>
    q r (ps ++ ps2) _ (fresh_back (e2.trans e3) hr) ((e2.trans e3).trans (Ex.new hr)) (by rw [upd_same]; simp) (Tupz.upd (xs := []) (Tupz.app (hT.ex e3) hT2) (.inr hr))⟩
theorem ez_cat1 {a : Addr} {ps : List Addr} {us vs : List (List Nat)} (ha : Ev ta σ H (.ref a)) (h2 : H a = some (.lst (ps.map V.ref))) (hT : Tupz H ps us) (hb : EvZ tb σ H vs) (hz : us.length + vs.length ≤ 50000) : EvZ (tOp rCat ta tb) σ H (us ++ vs) := fun H1 e Q q =>
  ha H1 e _ fun H2 e2 => hb H2 (e.trans e2) _ fun p2 ps2 H3 hp2 e3 h3 hT2 => ⟨a, p2, _, _, rfl, rfl, ((e.trans e2).trans e3) _ _ h2, h3, by rw [List.length_map, List.length_map, hT.len, hT2.len]; exact sz_of (by omega), fun r hr =>
    q r (ps ++ ps2) _ (fresh_back (e2.trans e3) hr) ((e2.trans e3).trans (Ex.new hr)) (by rw [upd_same]; simp) (Tupz.upd (xs := []) (Tupz.app (hT.ex ((e.trans e2).trans e3)) hT2) (.inr hr))⟩
variable {D : Ends} {tz : TS}
theorem s_asgZ {i : Nat} {vs : List (List Nat)} (h : EvZ te σ H vs) (k : ∀ p ps H1, H p = none → Ex H H1 → H1 p = some (.lst (ps.map V.ref)) → Tupz H1 ps vs → D.nx (σ.set i (some (.ref p))) H1) : tAsg te (gName i) D σ H := h H (Ex.refl H) _ k
theorem q_asgZ {i : Nat} {vs : List (List Nat)} (h : EvZ te σ H vs) (k : ∀ p ps H1, H p = none → Ex H H1 → H1 p = some (.lst (ps.map V.ref)) → Tupz H1 ps vs → tz D (σ.set i (some (.ref p))) H1) : tSeq (tAsg te (gName i)) tz D σ H := s_asgZ (D := { D with nx := tz D }) h k
theorem s_retZ {vs : List (List Nat)} (h : EvZ te σ H vs) (k : RetZ vs H D.rt) : tRet te D σ H := h H (Ex.refl H) _ k
theorem len_le_of {v : List Nat} {k : Nat} (h : ∀ x ∈ v, 1 ≤ x ∧ x ≤ k) (s : v.Pairwise (· < ·)) : v.length ≤ k := by
  have e := asc_eq (n := k) (S := fun x => decide (x ∈ v)) s (fun x => by
    constructor
    · intro hx; exact ⟨h x hx, decide_eq_true hx⟩
    · rintro ⟨_, hx⟩; exact of_decide_eq_true hx)
  rw [← e]
  exact asc_len _ _
/-- [()] -/
theorem ez_unit : EvZ (tLst (tCons (tTup tNil) tNil)) σ H [[]] := fun H1 e Q q => ⟨sz_of (by show 0 ≤ 100000; decide), fun t ht => ⟨sz_of (by show 1 ≤ 100000; decide), fun p hp => q p [t] _ (fresh_back (Ex.new ht) hp) ((Ex.new ht).trans (Ex.new hp)) (by rw [upd_same]; rfl) (Tupz.upd (xs := []) (Tupz.one upd_same) (.inr hp))⟩⟩
end
section
variable {w : World} {K : PySem.W.Frag} {mg : Str → Option Value} {base : Heap}
theorem sc_l_all : FnScope ["_law_model_here", "_law_told_here", "_law_number", "_law_version"] ["_law_model_here"] (defScope s_l_all) := ⟨rfl, rfl, rfl, by decide +kernel, rfl, by decide +kernel, by decide +kernel⟩
def spAll (K : PySem.W.Frag) : Sp := fun vs H Q _ => ∃ (L : Lay) (A : Ab), vs = [.ref L.m] ∧ Md H L A ∧ (allV A A.n).length ≤ 2000 ∧ RetZ (allV A A.n) H Q
theorem allV_mono (A : Ab) : ∀ k m, k ≤ m → (allV A k).length ≤ (allV A m).length := fun k m h => by
  induction h with
  | refl => exact Nat.le_refl _
  | step h ih =>
    refine Nat.le_trans ih ?_
    show _ ≤ (allV A _ ++ _).length
    rw [List.length_append]
    omega
theorem ok_l_all (T : Txt K mg) : OkC PP w K mg base CX0 2 ("_law_all", none) ["_law_model_here"] (spAll K) :=
  ok0 T.F_l_all sc_l_all (fun _ _ _ _ _ _ us hl => match us, hl with | [_], _ => rfl) (by rintro vs H Q E ⟨L, A, rfl, _⟩; rfl) fun f cdv A0 outer s0 H vs Q E hr h => by
    obtain ⟨L, A, rfl, hM, hV, k⟩ := h
    refine ⟨_, (pss_cons (ps_set (i := 1) sc_l_all.nd rfl (Or.inl rfl) (pe_lst (pa_cons (pe_tup pa_nil) pa_nil))) (pss_cons (ps_for PassesOwn.never rfl (pi_range2 (by rfl) T.z_range (pa_cons pe_int (pa_cons (pe_callB (call_lenK (K := K)) (by rfl) T.z_len (by decide +kernel) (pa_cons (pe_ix (ix_listK (K := K)) (pv 0) pe_int (fun _ _ => rfl)) pa_nil)) pa_nil))) (pg_name (i := 2) sc_l_all.nd rfl (Or.inr rfl)) (pss_one (ps_set (i := 1) sc_l_all.nd rfl (Or.inl rfl) (pe_op op_cat (pv 1) (pe_lc (own := [("_law_version", 3)]) (g := gName 3) (by rfl) sc_l_all.nd (pi_listK (K := K) (pv 1)) (blkOk_by (by rfl)) (fun _ _ _ _ _ => pg_name (i := 3) sc_l_all.nd rfl (by first | exact Or.inl rfl | exact Or.inr rfl)) (fun _ _ _ _ _ => (pts_one (pt_val (pe_c (ok_l_fits T) (hr.mono (by decide)) T.g_l_fits pass0 (pa_cons (pv 0) (pa_cons (pv 3) (pa_cons (pv 2) pa_nil))))))) (fun _ _ _ _ _ => (pe_op (op_catK (K := K)) (pv 3) (pe_tup (pa_cons (pv 2) pa_nil))))))))) (pss_one (ps_ret (pv 1))))), ?_⟩
    refine q_asgZ ez_unit fun p0 ps0 H1 n0 e1 h1 hT1 => ?_
    refine q_forR2 (lo := 1) (n := (A.n : Int) + 1) (ea_cons ev_c (ea_cons (ev_len1 (hM.ex e1) (ev_var rfl)) ea_nil)) ⟨by omega, by omega, by omega, by have := hM.nmax; omega⟩
      (fun i σ H' => ∃ p ps x, σ = [some (.ref L.m), some (.ref p), x, none] ∧ Ex H H' ∧ H p = none ∧ H' p = some (.lst (ps.map V.ref)) ∧ Tupz H' ps (allV A i)) (fun H2 e2 => ⟨_, _, _, rfl, e1.trans e2, n0, e2 _ _ h1, hT1.ex e2⟩) (fun i σ H' hi => ?_) (fun σ H' => ?_)
    · rintro ⟨p, ps, x, rfl, e, n1, hp, hT⟩
      have ec : (1 : Int) + (i : Int) = ((i + 1 : Nat) : Int) := by omega
      rw [ec]
      have hi1 : i + 1 ≤ A.n := by omega
      have hl : (allV A i).length ≤ 2000 := Nat.le_trans (allV_mono A i A.n (by omega)) hV
      have hl2 : ((allV A i).filter fun v => fits A v (i + 1)).length ≤ 2000 := Nat.le_trans (List.length_filter_le _ _) hl
      have hM' := hM.ex e
      refine s_asgZ (ez_cat1 (us := allV A i) (vs := ((allV A i).filter fun v => fits A v (i + 1)).map fun v => v ++ [i + 1]) (ev_var rfl) hp hT (fun H2 e2 Q2 q2 => ?_) (by rw [List.length_map]; omega)) fun p2 ps2 H2 n2 e2 h2 hT2 => ?_
      · refine ez_lcL (xs := ps.map V.ref) (fun j => fits A ((allV A i).getD j []) (i + 1)) (fun j => (allV A i).getD j [] ++ [i + 1]) (ev_var rfl) (SqL.of hp) (by rw [List.length_map, hT.len]; omega) (fun _ => rfl) (fun j x hj => ?_) (fun j x hj hf => ?_) H2 e2 Q2 fun p3 ps3 H3 n3 e3 h3 hT3 => q2 p3 ps3 H3 n3 e3 h3 (by
          rw [List.length_map, hT.len, range_fm (allV A i) [] (fun v => fits A v (i + 1)) (fun v => v ++ [i + 1])] at hT3
          exact hT3)
        · rw [List.getElem?_map] at hj
          cases e4 : ps[j]? with
          | none => rw [e4] at hj; cases hj
          | some tt =>
            rw [e4] at hj
            cases hj
            obtain ⟨v, hv, ht⟩ := hT.get e4
            rw [show (allV A i).getD j [] = v by rw [List.getD_eq_getElem?_getD, hv]; rfl]
            exact et_B (ev_call (ea_cons (ev_var rfl) (ea_cons (ev_var rfl) (ea_cons (ev_var rfl) ea_nil))) fun H3 e3 Q3 q3 E3 => ⟨L, A, tt, v, i + 1, rfl, hM'.ex e3, .inr (SqT.of (e3 _ _ ht)), hi1, fun H4 e4 => q3 H4 e4⟩)
        · rw [List.getElem?_map] at hj
          cases e4 : ps[j]? with
          | none => rw [e4] at hj; cases hj
          | some tt =>
            rw [e4] at hj
            cases hj
            obtain ⟨v, hv, ht⟩ := hT.get e4
            have hvl := allV_in A i v (List.mem_of_getElem? hv)
            rw [show (allV A i).getD j [] = v by rw [List.getD_eq_getElem?_getD, hv]; rfl]
            refine ew_snoc (ew_ev (ev_var rfl) ht) (ew_eu (eu_tup (ea_cons (ev_var rfl) ea_nil) (by show 1 ≤ 100000; decide))) ?_
            have := len_le_of hvl.1 hvl.2
            have := hM.nmax
            omega
      · exact ⟨p2, ps2, _, rfl, e.trans e2, fresh_back e n2, h2, hT2⟩
    · rintro ⟨p, ps, x, rfl, e, n1, hp, hT⟩
      rw [show ((A.n : Int) + 1 - 1).toNat = A.n by omega] at hT
      exact s_ret (ev_var rfl) fun H2 e2 => k p ps H2 n1 (e.trans e2) (e2 _ _ hp) (hT.ex e2)
end
end K27
set_option Elab.async false
set_option linter.all false
set_option maxRecDepth 100000
set_option maxHeartbeats 4000000
/-! K27W4: the first pair, tuples and lists compared, chains. -/
namespace K27
open PySem PySem.Spec PyProof.Rows L2 Evl
local macro_rules | `(tactic| walk_at "rd") => `(tactic| repeat (first | refine ⟨_, _, rfl, rfl, ?_⟩ | refine ⟨_, rfl, ?_⟩ | refine ⟨_, _, _, _, rfl, rfl, SqL.of (by assumption), rfl, ?_⟩ | refine Or.inl ⟨_, rfl, ?_⟩ | refine ⟨Or.inl (by decide), ?_⟩ | refine ⟨(by decide : _ ≠ _), ?_⟩))
def nd (l : List Nat) : List PyData := l.map fun (n : Nat) => .int (n : Int)
def zd (vs : List (List Nat)) : List PyData := vs.map fun v => .tuple (nd v)
theorem nd_can : ∀ l : List Nat, PyData.canLayAll0 (nd l) = true
  | [] => rfl
  | a :: l => by
    show (PyData.canLay0 (.int (a : Int)) && PyData.canLayAll0 (nd l)) = true
    rw [nd_can l]
    rfl
theorem nd_depth : ∀ l : List Nat, PyData.depthAll (nd l) = 0
  | [] => rfl
  | a :: l => by
    show max (PyData.depth (.int (a : Int))) (PyData.depthAll (nd l)) = 0
    rw [nd_depth l]
    rfl
theorem zd_can : ∀ l : List (List Nat), PyData.canLayAll0 (zd l) = true
  | [] => rfl
  | a :: l => by
    show (PyData.canLayAll0 (nd a) && PyData.canLayAll0 (zd l)) = true
    rw [zd_can l, nd_can]
    rfl
theorem zd_depth : ∀ l : List (List Nat), PyData.depthAll (zd l) ≤ 1
  | [] => Nat.zero_le _
  | a :: l => by
    show max (PyData.depthAll (nd a) + 1) (PyData.depthAll (zd l)) ≤ 1
    have := zd_depth l
    rw [nd_depth]
    omega
theorem shaped_nd (l : List Nat) : SeqAt.shaped (.list (nd l)) = true := by
  show (PyData.canLayAll0 (nd l) && decide (PyData.depthAll (nd l) + 1 ≤ 64)) = true
  rw [nd_can, nd_depth]; rfl
theorem shaped_ndT (l : List Nat) : SeqAt.shaped (.tuple (nd l)) = true := by
  show (PyData.canLayAll0 (nd l) && decide (PyData.depthAll (nd l) + 1 ≤ 64)) = true
  rw [nd_can, nd_depth]; rfl
theorem shaped_zd (l : List (List Nat)) : SeqAt.shaped (.list (zd l)) = true := by
  show (PyData.canLayAll0 (zd l) && decide (PyData.depthAll (zd l) + 1 ≤ 64)) = true
  have := zd_depth l
  rw [zd_can, decide_eq_true (by omega)]; rfl
theorem dp_nd (K : PySem.W.Frag) (H : Hp) : ∀ l : List Nat, DpAll K H (nv l) (nd l)
  | [] => .nil
  | a :: l => .cons (.int _) (dp_nd K H l)
theorem dp_zd (K : PySem.W.Frag) {H : Hp} : ∀ {ps : List Addr} {vs : List (List Nat)}, Tupz H ps vs → DpAll K H (ps.map V.ref) (zd vs)
  | [], [], _ => .nil
  | _ :: _, v :: _, h => .cons (.tup (SqT.of h.1) (dp_nd K H v)) (dp_zd K h.2)
  | [], _ :: _, h => h.elim
  | _ :: _, [], h => h.elim
theorem nd_inj {l m : List Nat} (h : PyData.eqv (.list (nd l)) (.list (nd m)) = true) : l = m := by
  have key : ∀ (l m : List Nat), PyData.eqvAll (nd l) (nd m) = true → l = m := by
    intro l
    induction l with
    | nil => intro m h; cases m with
      | nil => rfl
      | cons b m => cases h
    | cons a l ih => intro m h; cases m with
      | nil => cases h
      | cons b m =>
        have h' : (PyData.eqv (.int (a : Int)) (.int (b : Int)) && PyData.eqvAll (nd l) (nd m)) = true := h
        rw [Bool.and_eq_true] at h'
        have e : (a : Int) = (b : Int) := by simpa [PyData.eqv] using h'.1
        rw [ih m h'.2, show a = b by omega]
  exact key l m h
section
variable {w : World} {K : PySem.W.Frag} {mg : Str → Option Value} {base : Heap}
def RetU (xs : List V) (H : Hp) (Q : VK) : Prop := ∀ p H2, H p = none → Ex H H2 → H2 p = some (.tup xs) → Q (.ref p) H2
theorem sc_l_pair : FnScope ["_law_model_here", "_law_first", "_law_second"] ["_law_model_here"] (defScope s_l_pair) := ⟨rfl, rfl, rfl, by decide +kernel, rfl, by decide +kernel, by decide +kernel⟩
def pairL : Option (Nat × Nat) → List Nat
  | none => []
  | some p => [p.1, p.2]
def spPair (K : PySem.W.Frag) : Sp := fun vs H Q _ => ∃ (L : Lay) (A : Ab), vs = [.ref L.m] ∧ Md H L A ∧ Good A ∧ ∀ o, LeastP A A.n o → RetU (nv (pairL o)) H Q
theorem ok_l_pair (T : Txt K mg) : OkC PP w K mg base CX0 1 ("_law_pair", none) ["_law_model_here"] (spPair K) :=
  ok0 T.F_l_pair sc_l_pair (fun _ _ _ _ _ _ us hl => match us, hl with | [_], _ => rfl) (by rintro vs H Q E ⟨L, A, rfl, _⟩; rfl) fun f cdv A0 outer s0 H vs Q E hr h => by
    obtain ⟨L, A, rfl, hM, hG, k⟩ := h
    refine ⟨_, (pss_cons (ps_for PassesOwn.never rfl (pi_range2 (by rfl) T.z_range (pa_cons pe_int (pa_cons (pe_callB (call_lenK (K := K)) (by rfl) T.z_len (by decide +kernel) (pa_cons (pe_ix (ix_listK (K := K)) (pv 0) pe_int (fun _ _ => rfl)) pa_nil)) pa_nil))) (pg_name (i := 1) sc_l_pair.nd rfl (Or.inl rfl)) (pss_one (ps_for PassesOwn.never rfl (pi_range2 (by rfl) T.z_range (pa_cons (pe_op op_add (pv 1) pe_int) (pa_cons (pe_callB (call_lenK (K := K)) (by rfl) T.z_len (by decide +kernel) (pa_cons (pe_ix (ix_listK (K := K)) (pv 0) pe_int (fun _ _ => rfl)) pa_nil)) pa_nil))) (pg_name (i := 2) sc_l_pair.nd rfl (Or.inl rfl)) (pss_one (ps_if (PW.pt (pw_and (pt_cmpR (op_niK (K := K)) (pv 1) (pe_ix (ix_listK (K := K)) (pe_ix (ix_listK (K := K)) (pv 0) pe_int (fun _ _ => rfl)) (pv 2) (fun _ _ => rfl)) (by rfl)) (pw_and1 (pt_cmpR (op_niK (K := K)) (pv 1) (pe_ix (ix_listK (K := K)) (pe_ix (ix_listK (K := K)) (pv 0) pe_int (fun _ _ => rfl)) (pv 2) (fun _ _ => rfl)) (by rfl))))) (pss_one (ps_ret (pe_tup (pa_cons (pv 1) (pa_cons (pv 2) pa_nil))))) pss_nil))))) (pss_one (ps_ret (pe_tup pa_nil)))), ?_⟩
    have hnm := hM.nmax
    refine q_forR2 (lo := 1) (n := (A.n : Int) + 1) (ea_cons ev_c (ea_cons (ev_len1 hM (ev_var rfl)) ea_nil)) ⟨by omega, by omega, by omega, by omega⟩
      (fun i σ H' => ∃ x y, σ = [some (.ref L.m), x, y] ∧ Ex H H' ∧ ∀ a b, a ≤ i → ¬ Indep A a b) (fun H2 e2 => ⟨_, _, rfl, e2, fun a b ha q => by have := q.1; omega⟩) (fun i σ H' hi => ?_) (fun σ H' => ?_)
    · rintro ⟨x, y, rfl, e, hN⟩
      have ec : (1 : Int) + (i : Int) = ((i + 1 : Nat) : Int) := by omega
      rw [ec]
      have hM' := hM.ex e
      refine s_forR2 (lo := (i + 1 : Nat) + 1) (n := (A.n : Int) + 1) (ea_cons (ev_op (ev_var rfl) ev_c rv_I0) (ea_cons (ev_len1 hM' (ev_var rfl)) ea_nil)) ⟨by omega, by omega, by omega, by omega⟩
        (fun j σ H' => ∃ y, σ = [some (.ref L.m), some (.int ((i + 1 : Nat) : Int)), y] ∧ Ex H H' ∧ ∀ b, b ≤ i + 1 + j → ¬ Indep A (i + 1) b) (fun H2 e2 => ⟨_, rfl, e.trans e2, fun b hb q => by have := q.2.1; omega⟩) (fun j σ H' hj => ?_) (fun σ H' => ?_)
      · rintro ⟨y, rfl, e, hJ⟩
        have ec2 : ((i + 1 : Nat) : Int) + 1 + (j : Int) = ((i + 2 + j : Nat) : Int) := by omega
        rw [ec2]
        have hM' := hM.ex e
        have h2 : i + 2 + j ≤ A.n := by omega
        refine s_when (b := (!A.R (i + 2 + j) (i + 1)) && (!A.B (i + 2 + j) (i + 1))) (et_is (et_and (et_test (ev_niN (ev_var rfl) (ev_inn hM' five3 (ev_var rfl) (ev_var rfl) h2) (.inl (SqL.of (hM'.i3 _ h2))))) fun _ => et_test (ev_niN (ev_var rfl) (ev_inn hM' five4 (ev_var rfl) (ev_var rfl) h2) (.inl (SqL.of (hM'.i4 _ h2))))) (by rw [mem3 hG, mem4 hG])) (fun hb H4 e4 => ?_) (fun hb H4 e4 => ?_)
        · rw [Bool.and_eq_true, Bool.not_eq_true', Bool.not_eq_true'] at hb
          refine s_retU (eu_tup (ea_cons (ev_var rfl) (ea_cons (ev_var rfl) ea_nil)) (by show 2 ≤ 100000; decide)) fun p H5 np e5 h5 => ?_
          refine k (some (i + 1, i + 2 + j)) ⟨⟨by omega, by show i + 1 < i + 2 + j; omega, h2, hb.1, hb.2⟩, h2, fun a b hbn q => ?_⟩ p H5 (fresh_back (e.trans e4) np) ((e.trans e4).trans e5) h5
          show i + 1 < a ∨ (i + 1 = a ∧ i + 2 + j ≤ b)
          by_cases h1 : a ≤ i
          · exact absurd q (hN a b h1)
          · by_cases h3 : a = i + 1
            · subst h3
              by_cases h4 : b ≤ i + 1 + j
              · exact absurd q (hJ b h4)
              · right; omega
            · left; omega
        · refine ⟨_, rfl, e.trans e4, fun b hb2 q => ?_⟩
          by_cases h4 : b ≤ i + 1 + j
          · exact hJ b h4 q
          · have : b = i + 2 + j := by omega
            subst this
            rw [q.2.2.2.1, q.2.2.2.2] at hb
            cases hb
      · rintro ⟨y, rfl, e, hJ⟩
        refine ⟨_, _, rfl, e, fun a b ha q => ?_⟩
        by_cases h1 : a ≤ i
        · exact hN a b h1 q
        · have : a = i + 1 := by omega
          subst this
          refine hJ b ?_ q
          have := q.2.2.1
          omega
    · rintro ⟨x, y, rfl, e, hN⟩
      refine s_retU (eu_tup ea_nil (by decide)) fun p H5 np e5 h5 => ?_
      exact k none (fun a b hb q => hN a b (by have := q.2.1; omega) q) p H5 (fresh_back e np) (e.trans e5) h5
/-! isinstance -/
theorem ev_isI {σ : L2.St} {H : Hp} {ta tb : TE} {x : V} {n m : String} {b : Bool} (ha : Ev ta σ H x) (hb : Ev tb σ H (.ty n)) (ty : ∀ H1, Ex H H1 → TyX K H1 x (.type m)) (hk : PySem.W.kitOne K (.type m) (.type n) = some b) : Ev (tCB (rIsi K) (tCons ta (tCons tb tNil))) σ H (.bl b) := fun H1 e Q q =>
  ha H1 e _ fun H2 e2 => hb H2 (e.trans e2) _ fun H3 e3 => ⟨x, .ty n, .type m, .type n, b, rfl, .ty n, ty H3 ((e.trans e2).trans e3), hk, q H3 (e2.trans e3)⟩
theorem sc_l_integer : FnScope ["_law_told_here"] ["_law_told_here"] (defScope s_l_integer) := ⟨rfl, rfl, rfl, by decide +kernel, rfl, by decide +kernel, by decide +kernel⟩
def spInteger : Sp := fun vs H Q _ => ∃ i : Int, vs = [.int i] ∧ RetV (.bl true) H Q
theorem ok_l_integer (T : Txt K mg) : OkC PP w K mg base CX0 1 ("_law_integer", none) ["_law_told_here"] spInteger :=
  ok0 T.F_l_integer sc_l_integer (fun _ _ _ _ _ _ us hl => match us, hl with | [_], _ => rfl) (by rintro vs H Q E ⟨i, rfl, _⟩; rfl) fun f cdv A0 outer s0 H vs Q E hr h => by
    obtain ⟨i, rfl, k⟩ := h
    refine ⟨_, (pss_one (ps_ret (pe_and (pe_callB (call_isiK' (K := K)) (by rfl) T.z_isinstance (by decide +kernel) (pa_cons (pv 0) (pa_cons (pe_bltn (v := .ty "int") (by rfl) T.z_int (by decide +kernel) rfl) pa_nil))) (pe_one (pe_not (pe_callB (call_isiK' (K := K)) (by rfl) T.z_isinstance (by decide +kernel) (pa_cons (pv 0) (pa_cons (pe_bltn (v := .ty "bool") (by rfl) T.z_bool (by decide +kernel) rfl) pa_nil)))))))), ?_⟩
    exact s_ret (ev_andV (a := true) (ev_isI (ev_var rfl) ev_c (fun _ _ => .base (.int i)) (kit_ty (by decide +kernel))) fun _ => ev_notV (a := false) (ev_isI (ev_var rfl) ev_c (fun _ _ => .base (.int i)) (kit_ty (by decide +kernel)))) k
theorem sc_l_tuple : FnScope ["_law_told_here", "_law_due", "_law_place"] ["_law_told_here", "_law_due"] (defScope s_l_tuple) := ⟨rfl, rfl, rfl, by decide +kernel, rfl, by decide +kernel, by decide +kernel⟩
def spTuple (K : PySem.W.Frag) : Sp := fun vs H Q _ => ∃ (a b : Addr) (l : List Int), vs = [.ref a, .ref b] ∧ H a = some (.tup (l.map V.int)) ∧ H b = some (.tup (l.map V.int)) ∧ l.length ≤ 1000 ∧ RetV (.bl true) H Q
theorem nv_int (l : List Nat) : nv l = (l.map fun (n : Nat) => (n : Int)).map V.int := by rw [List.map_map]; rfl
theorem given_none {n : Nat} {f : Nat → Bool} {v : Nat → V} (h : ∀ i, i < n → f i = false) : given n f v = [] := by
  induction n with
  | zero => rfl
  | succ n ih => rw [given_no (h n (by omega)), ih fun i hi => h i (by omega)]
theorem ev_len0z {σ : L2.St} {H : Hp} {te : TE} {xs : List V} (h : EvL te σ H xs) (e : xs = []) : Ev (tOp rEq (tCB (rLenS K) (tCons te tNil)) (tC (.int 0))) σ H (.bl true) := by
  subst e
  exact ev_op (ev_lenN h) ev_c (rv_eq rfl)
theorem ok_l_tuple (T : Txt K mg) : OkC PP w K mg base CX0 2 ("_law_tuple", none) ["_law_told_here", "_law_due"] (spTuple K) :=
  ok0 T.F_l_tuple sc_l_tuple (fun _ _ _ _ _ _ us hl => match us, hl with | [_, _], _ => rfl) (by rintro vs H Q E ⟨a, b, l, rfl, _⟩; rfl) fun f cdv A0 outer s0 H vs Q E hr h => by
    obtain ⟨a, b, l, rfl, ha, hb, hz, k⟩ := h
    refine ⟨_, (pss_cons (ps_if (PW.pt (pw_or (pt_not (pt_val (pe_callB (call_isiK' (K := K)) (by rfl) T.z_isinstance (by decide +kernel) (pa_cons (pv 0) (pa_cons (pe_bltn (v := .ty "tuple") (by rfl) T.z_tuple (by decide +kernel) rfl) pa_nil))))) (pw_or1 (pt_cmpR op_ne (pe_callB (call_lenK (K := K)) (by rfl) T.z_len (by decide +kernel) (pa_cons (pv 0) pa_nil)) (pe_callB (call_lenK (K := K)) (by rfl) T.z_len (by decide +kernel) (pa_cons (pv 1) pa_nil)) (nomark _))))) (pss_one (ps_ret pe_bl)) pss_nil) (pss_one (ps_ret (pe_cmpR op_eq (pe_callB (call_lenK (K := K)) (by rfl) T.z_len (by decide +kernel) (pa_cons (pe_lc (own := [("_law_place", 2)]) (g := gName 2) (by rfl) sc_l_tuple.nd (pi_range1 (by rfl) T.z_range (pa_cons (pe_callB (call_lenK (K := K)) (by rfl) T.z_len (by decide +kernel) (pa_cons (pv 1) pa_nil)) pa_nil)) (blkOk_by (by rfl)) (fun _ _ _ _ _ => pg_name (i := 2) sc_l_tuple.nd rfl (by first | exact Or.inl rfl | exact Or.inr rfl)) (fun _ _ _ _ _ => (pts_one (PW.pt (pw_or (pt_not (pt_val (pe_c (ok_l_integer T) (hr.mono (by decide)) T.g_l_integer pass0 (pa_cons (pe_ix (ix_tupK (K := K)) (pv 0) (pv 2) (fun _ _ => rfl)) pa_nil)))) (pw_or1 (pt_cmpR op_ne (pe_ix (ix_tupK (K := K)) (pv 0) (pv 2) (fun _ _ => rfl)) (pe_ix (ix_tupK (K := K)) (pv 1) (pv 2) (fun _ _ => rfl)) (nomark _))))))) (fun _ _ _ _ _ => (pv 2))) pa_nil)) pe_int (nomark _))))), ?_⟩
    refine q_when (b := false) (et_is (et_or (et_not (et_B (ev_isI (ev_var rfl) ev_c (fun H1 e => .base (.tup (e _ _ ha))) (kit_ty (r := true) (by decide +kernel))))) fun _ => et_test (ev_op (ev_lenT (ev_var rfl) (SqT.of ha)) (ev_lenT (ev_var rfl) (SqT.of hb)) (rv_ne rfl))) (by simp)) (fun hb => by cases hb) (fun _ H1 e1 => ?_)
    refine s_ret (ev_len0z (el_lcR1 (fun _ => false) (fun _ => .non) (ea_cons (ev_lenT (ev_var rfl) (ex_t e1 (SqT.of hb))) ea_nil) ⟨by omega, by rw [List.length_map]; omega⟩ (fun _ => rfl) (fun i H2 e2 hi => ?_) (fun i H2 e2 hi hf => by cases hf)) (given_none fun _ _ => rfl)) fun H2 e2 => k _ (e1.trans e2)
    rw [List.length_map] at hi
    have hi' : i < l.length := by omega
    have g : atI (l.map V.int) (i : Int) = some (.int (l[i]'hi')) := atI_nat (by rw [List.getElem?_map, List.getElem?_eq_getElem hi']; rfl)
    have e12 := e1.trans e2
    refine et_is (et_or (a := false) (b := false) (et_not (a := true) (et_B (ev_call (ea_cons (ev_op (ev_var rfl) (ev_var rfl) (rv_ixT (ex_t e12 (SqT.of ha)) g)) ea_nil) fun H3 e3 Q3 q3 E3 => ⟨_, rfl, fun H4 e4 => q3 H4 e4⟩))) fun _ => et_test (ev_is (ev_op (ev_op (ev_var rfl) (ev_var rfl) (rv_ixT (ex_t e12 (SqT.of ha)) g)) (ev_op (ev_var rfl) (ev_var rfl) (rv_ixT (ex_t e12 (SqT.of hb)) g)) (rv_ne rfl)) (by simp))) rfl
theorem sc_l_list_of : FnScope ["_law_told_here", "_law_due", "_law_place"] ["_law_told_here", "_law_due"] (defScope s_l_list_of) := ⟨rfl, rfl, rfl, by decide +kernel, rfl, by decide +kernel, by decide +kernel⟩
def spListOf (K : PySem.W.Frag) : Sp := fun vs H Q _ => ∃ (a b : Addr) (ps qs : List Addr) (zs : List (List Nat)), vs = [.ref a, .ref b] ∧ H a = some (.lst (ps.map V.ref)) ∧ H b = some (.lst (qs.map V.ref)) ∧ Tupz H ps zs ∧ Tupz H qs zs ∧ zs.length ≤ 1000 ∧ (∀ z ∈ zs, z.length ≤ 1000) ∧ RetV (.bl true) H Q
theorem ok_l_list_of (T : Txt K mg) : OkC PP w K mg base CX0 3 ("_law_list_of", none) ["_law_told_here", "_law_due"] (spListOf K) :=
  ok0 T.F_l_list_of sc_l_list_of (fun _ _ _ _ _ _ us hl => match us, hl with | [_, _], _ => rfl) (by rintro vs H Q E ⟨a, b, ps, qs, zs, rfl, _⟩; rfl) fun f cdv A0 outer s0 H vs Q E hr h => by
    obtain ⟨a, b, ps, qs, zs, rfl, ha, hb, hT, hU, hz, hzz, k⟩ := h
    refine ⟨_, (pss_cons (ps_if (PW.pt (pw_or (pt_not (pt_val (pe_callB (call_isiK' (K := K)) (by rfl) T.z_isinstance (by decide +kernel) (pa_cons (pv 0) (pa_cons (pe_bltn (v := .ty "list") (by rfl) T.z_list (by decide +kernel) rfl) pa_nil))))) (pw_or1 (pt_cmpR op_ne (pe_callB (call_lenK (K := K)) (by rfl) T.z_len (by decide +kernel) (pa_cons (pv 0) pa_nil)) (pe_callB (call_lenK (K := K)) (by rfl) T.z_len (by decide +kernel) (pa_cons (pv 1) pa_nil)) (nomark _))))) (pss_one (ps_ret pe_bl)) pss_nil) (pss_one (ps_ret (pe_cmpR op_eq (pe_callB (call_lenK (K := K)) (by rfl) T.z_len (by decide +kernel) (pa_cons (pe_lc (own := [("_law_place", 2)]) (g := gName 2) (by rfl) sc_l_list_of.nd (pi_range1 (by rfl) T.z_range (pa_cons (pe_callB (call_lenK (K := K)) (by rfl) T.z_len (by decide +kernel) (pa_cons (pv 1) pa_nil)) pa_nil)) (blkOk_by (by rfl)) (fun _ _ _ _ _ => pg_name (i := 2) sc_l_list_of.nd rfl (by first | exact Or.inl rfl | exact Or.inr rfl)) (fun _ _ _ _ _ => (pts_one (pt_not (pt_val (pe_c (ok_l_tuple T) (hr.mono (by decide)) T.g_l_tuple pass0 (pa_cons (pe_ix (ix_listK (K := K)) (pv 0) (pv 2) (fun _ _ => rfl)) (pa_cons (pe_ix (ix_listK (K := K)) (pv 1) (pv 2) (fun _ _ => rfl)) pa_nil))))))) (fun _ _ _ _ _ => (pv 2))) pa_nil)) pe_int (nomark _))))), ?_⟩
    have l1 := hT.len
    have l2 := hU.len
    refine q_when (b := false) (et_is (et_or (et_not (et_B (ev_isI (ev_var rfl) ev_c (fun H1 e => .base (.lst (e _ _ ha))) (kit_ty (r := true) (by decide +kernel))))) fun _ => et_test (ev_op (ev_len (ev_var rfl) (SqL.of ha)) (ev_len (ev_var rfl) (SqL.of hb)) (rv_ne rfl))) (by simp [l1, l2])) (fun hb => by cases hb) (fun _ H1 e1 => ?_)
    refine s_ret (ev_len0z (el_lcR1 (fun _ => false) (fun _ => .non) (ea_cons (ev_len (ev_var rfl) (ex_l e1 (SqL.of hb))) ea_nil) ⟨by omega, by rw [List.length_map]; omega⟩ (fun _ => rfl) (fun i H2 e2 hi => ?_) (fun i H2 e2 hi hf => by cases hf)) (given_none fun _ _ => rfl)) fun H2 e2 => k _ (e1.trans e2)
    rw [List.length_map] at hi
    have e12 := e1.trans e2
    have hi' : i < zs.length := by omega
    obtain ⟨t1, g1, ht1⟩ := hT.get' (List.getElem?_eq_getElem hi')
    obtain ⟨t2, g2, ht2⟩ := hU.get' (List.getElem?_eq_getElem hi')
    have q1 : atI (ps.map V.ref) (i : Int) = some (.ref t1) := atI_nat (by rw [List.getElem?_map, g1]; rfl)
    have q2 : atI (qs.map V.ref) (i : Int) = some (.ref t2) := atI_nat (by rw [List.getElem?_map, g2]; rfl)
    exact et_not (a := true) (et_B (ev_call (ea_cons (ev_op (ev_var rfl) (ev_var rfl) (rv_ixL (ex_l e12 (SqL.of ha)) q1)) (ea_cons (ev_op (ev_var rfl) (ev_var rfl) (rv_ixL (ex_l e12 (SqL.of hb)) q2)) ea_nil)) fun H3 e3 Q3 q3 E3 => ⟨t1, t2, zs[i].map fun (n : Nat) => (n : Int), rfl, by rw [← nv_int]; exact e3 _ _ (e12 _ _ ht1), by rw [← nv_int]; exact e3 _ _ (e12 _ _ ht2), by rw [List.length_map]; exact hzz _ (List.getElem_mem hi'), fun H4 e4 => q3 H4 e4⟩))
end
end K27
set_option Elab.async false
set_option linter.all false
set_option maxRecDepth 100000
set_option maxHeartbeats 4000000
/-! K27W5: a version seen by the model; chains. -/
namespace K27
open PySem PySem.Spec PyProof.Rows L2 Evl
local macro_rules | `(tactic| walk_at "rd") => `(tactic| repeat (first | refine ⟨_, _, rfl, rfl, ?_⟩ | refine ⟨_, rfl, ?_⟩ | refine ⟨_, _, _, _, rfl, rfl, SqL.of (by assumption), rfl, ?_⟩ | refine Or.inl ⟨_, rfl, ?_⟩ | refine ⟨Or.inl (by decide), ?_⟩ | refine ⟨(by decide : _ ≠ _), ?_⟩))
section
variable {w : World} {K : PySem.W.Frag} {mg : Str → Option Value} {base : Heap}
theorem sc_l_is_version : FnScope ["_law_model_here", "_law_taken", "_law_place", "_law_number", "_law_other"] ["_law_model_here", "_law_taken"] (defScope s_l_is_version) := ⟨rfl, rfl, rfl, by decide +kernel, rfl, by decide +kernel, by decide +kernel⟩
def spIsVer (K : PySem.W.Frag) : Sp := fun vs H Q _ => ∃ (L : Lay) (A : Ab) (a : Addr) (S : Nat → Bool), vs = [.ref L.m, .ref a] ∧ Md H L A ∧ Good A ∧ H a = some (.tup (nv (asc A.n S))) ∧ IsVer A S ∧ RetV (.bl true) H Q
theorem ok_l_is_version (T : Txt K mg) : OkC PP w K mg base CX0 1 ("_law_is_version", none) ["_law_model_here", "_law_taken"] (spIsVer K) :=
  ok0 T.F_l_is_version sc_l_is_version (fun _ _ _ _ _ _ us hl => match us, hl with | [_, _], _ => rfl) (by rintro vs H Q E ⟨L, A, a, S, rfl, _⟩; rfl) fun f cdv A0 outer s0 H vs Q E hr h => by
    obtain ⟨L, A, a, S, rfl, hM, hG, ha, hV, k⟩ := h
    refine ⟨_, (pss_cons (ps_for PassesOwn.never rfl (pi_range1 (by rfl) T.z_range (pa_cons (pe_callB (call_lenK (K := K)) (by rfl) T.z_len (by decide +kernel) (pa_cons (pv 1) pa_nil)) pa_nil)) (pg_name (i := 2) sc_l_is_version.nd rfl (Or.inl rfl)) (pss_cons (ps_set (i := 3) sc_l_is_version.nd rfl (Or.inl rfl) (pe_ix (ix_tupK (K := K)) (pv 1) (pv 2) (fun _ _ => rfl))) (pss_cons (ps_if (PW.pt (pw_or (pt_cmpR op_lt (pv 3) pe_int (nomark _)) (pw_or1 (pt_cmpR op_ge (pv 3) (pe_callB (call_lenK (K := K)) (by rfl) T.z_len (by decide +kernel) (pa_cons (pe_ix (ix_listK (K := K)) (pv 0) pe_int (fun _ _ => rfl)) pa_nil)) (nomark _))))) (pss_one (ps_ret pe_bl)) pss_nil) (pss_cons (ps_if (PW.pt (pw_and (pt_cmpR op_gt (pv 2) pe_int (nomark _)) (pw_and1 (pt_cmpR op_ge (pe_ix (ix_tupK (K := K)) (pv 1) (pe_op op_sub (pv 2) pe_int) (fun _ _ => rfl)) (pv 3) (nomark _))))) (pss_one (ps_ret pe_bl)) pss_nil) (pss_cons (ps_if (pt_cmpR op_gt (pe_callB (call_lenK (K := K)) (by rfl) T.z_len (by decide +kernel) (pa_cons (pe_lc (own := [("_law_other", 4)]) (g := gName 4) (by rfl) sc_l_is_version.nd (pi_listK (K := K) (pe_ix (ix_listK (K := K)) (pe_ix (ix_listK (K := K)) (pv 0) pe_int (fun _ _ => rfl)) (pv 3) (fun _ _ => rfl))) (blkOk_by (by rfl)) (fun _ _ _ _ _ => pg_name (i := 4) sc_l_is_version.nd rfl (by first | exact Or.inl rfl | exact Or.inr rfl)) (fun _ _ _ _ _ => (pts_one (pt_cmpR (op_niK (K := K)) (pv 4) (pv 1) (by rfl)))) (fun _ _ _ _ _ => (pv 4))) pa_nil)) pe_int (nomark _)) (pss_one (ps_ret pe_bl)) pss_nil) (pss_one (ps_if (pt_cmpR op_gt (pe_callB (call_lenK (K := K)) (by rfl) T.z_len (by decide +kernel) (pa_cons (pe_lc (own := [("_law_other", 4)]) (g := gName 4) (by rfl) sc_l_is_version.nd (pi_listK (K := K) (pe_ix (ix_listK (K := K)) (pe_ix (ix_listK (K := K)) (pv 0) pe_int (fun _ _ => rfl)) (pv 3) (fun _ _ => rfl))) (blkOk_by (by rfl)) (fun _ _ _ _ _ => pg_name (i := 4) sc_l_is_version.nd rfl (by first | exact Or.inl rfl | exact Or.inr rfl)) (fun _ _ _ _ _ => (pts_one (pt_cmpR (op_inK (K := K)) (pv 4) (pv 1) (by rfl)))) (fun _ _ _ _ _ => (pv 4))) pa_nil)) pe_int (nomark _)) (pss_one (ps_ret pe_bl)) pss_nil))))))) (pss_one (ps_ret pe_bl))), ?_⟩
    have hnm := hM.nmax
    have hal := asc_len A.n S
    refine q_forR1 (n := ((nv (asc A.n S)).length : Int)) (ea_cons (ev_lenT (ev_var rfl) (SqT.of ha)) ea_nil) ⟨by omega, by rw [nv_len]; omega⟩ (fun i σ H' => ∃ x y, σ = [some (.ref L.m), some (.ref a), x, y, none] ∧ Ex H H') (fun H1 e1 => ⟨_, _, rfl, e1⟩) (fun i σ H' hi => ?_) (fun σ H' => ?_)
    · rintro ⟨x, y, rfl, e⟩
      rw [nv_len] at hi
      have hi' : i < (asc A.n S).length := by omega
      have hmem := mem_asc.mp (List.getElem_mem hi')
      generalize ho : (asc A.n S)[i] = o at hmem
      have g : atI (nv (asc A.n S)) (i : Int) = some (.int (o : Int)) := atI_nat (by unfold nv; rw [List.getElem?_map, List.getElem?_eq_getElem hi', ho]; rfl)
      refine q_asg (v := .int (o : Int)) (Ev.mono e (ev_op (ev_var rfl) (ev_var rfl) (rv_ixT (SqT.of ha) g))) fun H1 e1 => ?_
      have ea1 := e.trans e1
      refine q_when (b := false) (EvT.mono ea1 (et_is (et_or (et_test (ev_op (ev_var rfl) ev_c rv_I0)) fun _ => et_test (ev_op (ev_var rfl) (ev_len1 hM (ev_var rfl)) rv_I0)) ?_)) (fun hb => by cases hb) (fun _ H2 e2 => ?_)
      · rw [Bool.or_eq_false_iff]
        exact ⟨decide_eq_false (by omega), decide_eq_false (by omega)⟩
      have ea2 := ea1.trans e2
      refine q_when (b := false) (EvT.mono ea2 (et_is (b := false) (et_and (b := false) (et_test (ev_op (ev_var rfl) ev_c rv_I0)) fun hp => ?_) (Bool.and_false _))) (fun hb => by cases hb) (fun _ H3 e3 => ?_)
      · have hp0 : 0 < i := by have := of_decide_eq_true hp; omega
        have hi2 : i - 1 < (asc A.n S).length := by omega
        have g2 : atI (nv (asc A.n S)) ((i : Int) - 1) = some (.int (((asc A.n S)[i - 1]'hi2 : Nat) : Int)) := by
          rw [show (i : Int) - 1 = ((i - 1 : Nat) : Int) by omega]
          exact atI_nat (by unfold nv; rw [List.getElem?_map, List.getElem?_eq_getElem hi2]; rfl)
        refine et_test (ev_is (ev_op (ev_op (ev_var rfl) (ev_op (ev_var rfl) ev_c rv_I0) (rv_ixT (SqT.of ha) g2)) (ev_var rfl) rv_I0) (congrArg V.bl (decide_eq_false ?_)))
        have hs := List.pairwise_iff_getElem.mp (asc_sorted A.n S) (i - 1) i hi2 hi' (by omega)
        rw [ho] at hs
        omega
      have ea3 := ea2.trans e3
      refine q_when (b := false) (EvT.mono ea3 (et_test (et_some (el_filtL (fun q => !decide (q ∈ asc A.n S)) (ev_inn hM five3 (ev_var rfl) (ev_var rfl) hmem.1.2) (SqL.of (hM.i3 o hmem.1.2)) (by have := asc_len A.n (A.R o); omega) (fun _ => rfl) (fun q hq => et_test (ev_niN (ev_var rfl) (ev_var rfl) (.inr (SqT.of ha)))) (fun o H1 => ev_var rfl)) ?_))) (fun hb => by cases hb) (fun _ H4 e4 => ?_)
      · rw [nv_empty, filt_empty, List.any_eq_false]
        intro q hq
        have hq2 := mem_asc.mp hq
        have := hV.clo o q hmem.2 hq2.2
        simp [mem_asc.mpr ⟨hq2.1, this⟩]
      have ea4 := ea3.trans e4
      refine s_when (b := false) (EvT.mono ea4 (et_test (et_some (el_filtL (fun q => decide (q ∈ asc A.n S)) (ev_inn hM five4 (ev_var rfl) (ev_var rfl) hmem.1.2) (SqL.of (hM.i4 o hmem.1.2)) (by have := asc_len A.n (A.B o); omega) (fun _ => rfl) (fun q hq => et_test (ev_inN (ev_var rfl) (ev_var rfl) (.inr (SqT.of ha)))) (fun o H1 => ev_var rfl)) ?_))) (fun hb => by cases hb) (fun _ H5 e5 => ⟨_, _, rfl, ea4.trans e5⟩)
      rw [nv_empty, filt_empty, List.any_eq_false]
      intro q hq
      have hq2 := mem_asc.mp hq
      intro hin
      have hin2 := mem_asc.mp (of_decide_eq_true hin)
      have := hV.cf o q hmem.2 hin2.2
      rw [this] at hq2
      cases hq2.2
    · rintro ⟨x, y, rfl, e⟩
      exact s_ret ev_c fun H5 e5 => k _ (e.trans e5)
theorem sc_l_chains : FnScope ["_law_model_here", "_law_ups", "_law_number", "_law_here", "_law_chain", "_law_turn"] ["_law_model_here", "_law_ups"] (defScope s_l_chains) := ⟨rfl, rfl, rfl, by decide +kernel, rfl, by decide +kernel, by decide +kernel⟩
def spChains (K : PySem.W.Frag) : Sp := fun vs H Q _ => ∃ (L : Lay) (A : Ab) (u : Addr), vs = [.ref L.m, .ref u] ∧ Md H L A ∧ Good A ∧ Tree A ∧ H u = some (.lst (nv ((List.range (A.n + 1)).map fun k => lastOr (asc A.n (A.R k))))) ∧ RetV (.bl true) H Q
theorem perm_ints {l : List Nat} {ns : List Int} (hs : l.Pairwise (· < ·)) (p : ns.Perm (l.map fun (n : Nat) => (n : Int))) (q : ns.Pairwise (· ≤ ·)) : ns = l.map fun (n : Nat) => (n : Int) := by
  have hm : ∀ x ∈ ns, 0 ≤ x := fun x hx => by
    obtain ⟨n, _, rfl⟩ := List.mem_map.mp (p.mem_iff.mp hx)
    omega
  have nd : ns.Nodup := p.nodup_iff.mpr (by
    have h : (l.map fun (n : Nat) => (n : Int)).Pairwise (· < ·) := List.pairwise_map.mpr (hs.imp fun h => by omega)
    exact h.imp fun h => by omega)
  have st : (ns.map Int.toNat).Pairwise (· < ·) := by
    rw [List.pairwise_map]
    refine List.Pairwise.imp_of_mem ?_ (List.pairwise_and_iff.mpr ⟨q, nd⟩)
    rintro a b ha hb ⟨h1, h2⟩
    have := hm a ha
    have := hm b hb
    omega
  have e : ns.map Int.toNat = l := sorted_ext st hs fun x => by
    rw [List.mem_map]
    constructor
    · rintro ⟨y, hy, rfl⟩
      obtain ⟨n, hn, rfl⟩ := List.mem_map.mp (p.mem_iff.mp hy)
      simpa using hn
    · intro hx
      exact ⟨(x : Int), p.mem_iff.mpr (List.mem_map.mpr ⟨x, hx, rfl⟩), by simp⟩
  rw [← e, List.map_map]
  refine (List.map_id ns).symm.trans (List.map_congr_left fun x hx => ?_)
  have := hm x hx
  simp only [id, Function.comp]
  omega
/-- sorted(xs) of numbers, and a list of numbers compared with it -/
theorem el_sorted {σ : L2.St} {H : Hp} {ta : TE} {a : Addr} {l m : List Nat} (ha : Ev ta σ H (.ref a)) (hl : H a = some (.lst (nv l))) (hp : l.Perm m) (hs : m.Pairwise (· < ·)) : EvL (tCB (rSortedI K) (tCons ta tNil)) σ H (nv m) := fun H1 e Q q =>
  ha H1 e _ fun H2 e2 => ⟨a, l.map fun (n : Nat) => (n : Int), rfl, by
    have := e2 _ _ (e _ _ hl)
    refine SqL.of ?_
    rw [this]
    congr 2
    rw [List.map_map]
    rfl, fun ns p h1 h2 h3 => by
    have e3 : ns = m.map fun (n : Nat) => (n : Int) := perm_ints hs (h1.trans (hp.map _)) h2
    subst e3
    refine q p _ (fresh_back e2 h3) (e2.trans (Ex.new h3)) ?_
    rw [upd_same, List.map_map]
    rfl⟩
theorem rv_neD {H : Hp} {x y : V} {d : PyData} (h1 : ∀ H1, Ex H H1 → Dp K H1 x d) (h2 : ∀ H1, Ex H H1 → Dp K H1 y d) (s : SeqAt.shaped d = true) : RV (rNeD K) x y H (.bl false) := fun H1 e Q q =>
  ⟨d, d, h1 H1 e, h2 H1 e, s, s, by rw [SeqAt.eqv_refl d (SeqAt.canLay_of_shaped s)]; exact q H1 (Ex.refl _)⟩
theorem lastOr_nil {l : List Nat} (h : ∀ x ∈ l, 1 ≤ x) (e : lastOr l = 0) : l = [] := by
  rcases List.eq_nil_or_concat l with rfl | ⟨p, m, rfl⟩
  · rfl
  · rw [List.concat_eq_append] at h e
    rw [lastOr_snoc] at e
    have := h m (by simp)
    omega
theorem ok_l_chains (T : Txt K mg) : OkC PP w K mg base CX0 1 ("_law_chains", none) ["_law_model_here", "_law_ups"] (spChains K) :=
  ok0 T.F_l_chains sc_l_chains (fun _ _ _ _ _ _ us hl => match us, hl with | [_, _], _ => rfl) (by rintro vs H Q E ⟨L, A, u, rfl, _⟩; rfl) fun f cdv A0 outer s0 H vs Q E hr h => by
    obtain ⟨L, A, u, rfl, hM, hG, hTr, hu, k⟩ := h
    refine ⟨_, (pss_cons (ps_for PassesOwn.never rfl (pi_range2 (by rfl) T.z_range (pa_cons pe_int (pa_cons (pe_callB (call_lenK (K := K)) (by rfl) T.z_len (by decide +kernel) (pa_cons (pe_ix (ix_listK (K := K)) (pv 0) pe_int (fun _ _ => rfl)) pa_nil)) pa_nil))) (pg_name (i := 2) sc_l_chains.nd rfl (Or.inl rfl)) (pss_cons (ps_set (i := 3) sc_l_chains.nd rfl (Or.inl rfl) (pe_ix (ix_listK (K := K)) (pv 1) (pv 2) (fun _ _ => rfl))) (pss_cons (ps_set (i := 4) sc_l_chains.nd rfl (Or.inl rfl) (pe_lst pa_nil)) (pss_cons (ps_for PassesOwn.never rfl (pi_range1 (by rfl) T.z_range (pa_cons (pe_callB (call_lenK (K := K)) (by rfl) T.z_len (by decide +kernel) (pa_cons (pe_ix (ix_listK (K := K)) (pv 0) pe_int (fun _ _ => rfl)) pa_nil)) pa_nil)) (pg_name (i := 5) sc_l_chains.nd rfl (Or.inl rfl)) (pss_cons (ps_if (pt_cmpR op_eq (pv 3) pe_int (nomark _)) (pss_one ps_break) pss_nil) (pss_cons (ps_expr (pe_appK (K := K) (pv 4) (pa_cons (pv 3) pa_nil))) (pss_one (ps_set (i := 3) sc_l_chains.nd rfl (Or.inl rfl) (pe_ix (ix_listK (K := K)) (pv 1) (pv 3) (fun _ _ => rfl))))))) (pss_one (ps_if (pt_cmpR (op_neK (K := K) hr.units) (pe_callB (cr_sortedK (K := K)) (by rfl) T.z_sorted (by decide +kernel) (pa_cons (pv 4) pa_nil)) (pe_ix (ix_listK (K := K)) (pe_ix (ix_listK (K := K)) (pv 0) pe_int (fun _ _ => rfl)) (pv 2) (fun _ _ => rfl)) (nomark _)) (pss_one (ps_ret pe_bl)) pss_nil)))))) (pss_one (ps_ret pe_bl))), ?_⟩
    have hnm := hM.nmax
    have gu : ∀ c, c ≤ A.n → atI (nv ((List.range (A.n + 1)).map fun k => lastOr (asc A.n (A.R k)))) (c : Int) = some (.int ((lastOr (asc A.n (A.R c)) : Nat) : Int)) := fun c hc => by
      refine atI_nat ?_
      unfold nv
      rw [List.getElem?_map, range_get _ (by omega)]
      rfl
    refine q_forR2 (lo := 1) (n := (A.n : Int) + 1) (ea_cons ev_c (ea_cons (ev_len1 hM (ev_var rfl)) ea_nil)) ⟨by omega, by omega, by omega, by omega⟩
      (fun i σ H' => ∃ x y z t, σ = [some (.ref L.m), some (.ref u), x, y, z, t] ∧ Ex H H') (fun H2 e2 => ⟨_, _, _, _, rfl, e2⟩) (fun i σ H' hi => ?_) (fun σ H' => ?_)
    · rintro ⟨x, y, z, t, rfl, e⟩
      have ec : (1 : Int) + (i : Int) = ((i + 1 : Nat) : Int) := by omega
      rw [ec]
      have hi1 : i + 1 ≤ A.n := by omega
      refine q_asg (Ev.mono e (ev_op (ev_var rfl) (ev_var rfl) (rv_ixL (SqL.of hu) (gu (i + 1) hi1)))) fun H1 e1 => ?_
      refine q_asgL (xs := []) (el_lst ea_nil (by decide)) fun ch H2 nh e2 hh => ?_
      have e02 := (e.trans e1).trans e2
      have nh0 : H ch = none := fresh_back (e.trans e1) nh
      refine q_forR1 (n := (A.n : Int) + 1) (ea_cons (ev_len1 (hM.ex e02) (ev_var rfl)) ea_nil) ⟨by omega, by omega⟩
        (fun j σ H' => ∃ t c rest chain, σ = [some (.ref L.m), some (.ref u), some (.int ((i + 1 : Nat) : Int)), some (.int ((lastOr rest : Nat) : Int)), some (.ref ch), t] ∧ Ex H H' ∧ c ≤ A.n ∧ rest = asc A.n (A.R c) ∧ asc A.n (A.R (i + 1)) = rest ++ chain.reverse ∧ chain.length = j ∧ H' ch = some (.lst (nv chain)))
        (fun H3 e3 => ⟨_, i + 1, _, [], rfl, e02.trans e3, hi1, rfl, by simp, rfl, e3 _ _ hh⟩) (fun j σ H' hj => ?_) (fun σ H' => ?_)
      · rintro ⟨t, c, rest, chain, rfl, e, hc, hrest, hsp, hlen, hch⟩
        refine q_when (et_test (ev_op (ev_var rfl) ev_c (rv_eq rfl))) (fun hb H3 e3 => ?_) (fun hb H3 e3 => ?_)
        · have h0 : lastOr rest = 0 := by
            have : V.int ((lastOr rest : Nat) : Int) = V.int 0 := of_decide_eq_true hb
            injection this with h
            omega
          have hr0 : rest = [] := lastOr_nil (fun x hx => by rw [hrest] at hx; exact (mem_asc.mp hx).1.1) h0
          subst hr0
          rw [List.nil_append] at hsp
          have e3' := e.trans e3
          refine s_when (b := false) (et_test (ev_opL1 (el_sorted (ev_var rfl) (e3 _ _ hch) (m := asc A.n (A.R (i + 1))) (by rw [hsp]; exact (List.reverse_perm _).symm) (asc_sorted _ _)) (fun H4 e4 => ev_inn (hM.ex (e3'.trans e4)) five3 (ev_var rfl) (ev_var rfl) hi1) fun p H4 hp e4 => rv_neD (d := .list (nd (asc A.n (A.R (i + 1))))) (fun H5 e5 => .lst (SqL.of (e5 _ _ hp)) (dp_nd K H5 _)) (fun H5 e5 => .lst (SqL.of ((hM.ex ((e3'.trans e4).trans e5)).i3 _ hi1)) (dp_nd K H5 _)) (shaped_nd _))) (fun hb => by cases hb) (fun _ H4 e4 => ⟨_, _, _, _, rfl, e3'.trans e4⟩)
        · have h0 : lastOr rest ≠ 0 := fun h => by
            have hb' := of_decide_eq_false hb
            rw [h] at hb'
            exact hb' rfl
          rcases List.eq_nil_or_concat rest with hr0 | ⟨pre, m, hr0⟩
          · subst hr0; exact absurd rfl h0
          rw [List.concat_eq_append] at hr0
          have hm : lastOr rest = m := by rw [hr0]; exact lastOr_snoc pre m
          have tc := tree_chain hG hTr (k := c) (pre := pre) (m := m) (hrest.symm.trans hr0)
          have hmn : m ≤ A.n := by omega
          rw [hm]
          have hcl : chain.length < 100000 := by omega
          refine q_app (xs := nv chain) (e3 _ _ hch) (ev_var rfl) (ev_var rfl) (by rw [nv_len]; exact hcl) fun H4 e4 => ?_
          have e5 : Ex H (upd H4 ch (.lst (nv chain ++ [.int (m : Int)]))) := Ex.mut ((e.trans e3).trans e4) nh0
          refine s_asg (v := .int ((lastOr pre : Nat) : Int)) (Ev.mono e5 (ev_is (ev_op (ev_var rfl) (ev_var rfl) (rv_ixL (SqL.of hu) (gu m hmn))) (by rw [← tc.1]))) fun H6 e6 => ?_
          refine ⟨_, m, pre, chain ++ [m], rfl, e5.trans e6, hmn, tc.1, ?_, by simp [hlen], e6 _ _ ?_⟩
          · rw [hsp, hr0]
            simp
          · rw [upd_same]; simp [nv]
      · rintro ⟨t, c, rest, chain, rfl, e, hc, hrest, hsp, hlen, hch⟩
        exfalso
        have h1 := congrArg List.length hsp
        rw [List.length_append, List.length_reverse] at h1
        have := asc_len A.n (A.R (i + 1))
        omega
    · rintro ⟨x, y, z, t, rfl, e⟩
      exact s_ret ev_c fun H5 e5 => k _ (e.trans e5)
end
end K27
set_option Elab.async false
set_option linter.all false
set_option maxRecDepth 100000
set_option maxHeartbeats 4000000
/-! K27Draw: what draws from the source. -/
namespace K27
open PySem PySem.Spec PyProof.Rows L2 Evl
local macro_rules | `(tactic| walk_at "rd") => `(tactic| repeat (first | refine ⟨_, _, rfl, rfl, ?_⟩ | refine ⟨_, rfl, ?_⟩ | refine ⟨_, _, _, _, rfl, rfl, SqL.of (by assumption), rfl, ?_⟩ | refine Or.inl ⟨_, rfl, ?_⟩ | refine ⟨Or.inl (by decide), ?_⟩ | refine ⟨(by decide : _ ≠ _), ?_⟩))
section
variable {K : PySem.W.Frag} {σ : L2.St} {H H' : Hp} {ta tb te tx tm tk : TE} {t u : TT} {x y z v : V} {r : R2} {s : Addr}
/-- a value after draws from s: P of it holds -/
def EvD (s : Addr) (te : TE) (σ : L2.St) (H : Hp) (P : V → Prop) : Prop := ∀ H1, Sm (· = s) H H1 → Src H1 s → ∀ Q : VK, (∀ v H2, P v → Src H2 s → Sm (· = s) H1 H2 → Q v H2) → te σ H1 Q
def EtD (s : Addr) (t : TT) (σ : L2.St) (H : Hp) (P : Bool → Prop) : Prop := ∀ H1, Sm (· = s) H H1 → Src H1 s → ∀ Q : Bool → Hp → Prop, (∀ b H2, P b → Src H2 s → Sm (· = s) H1 H2 → Q b H2) → t σ H1 Q
theorem ed_draw {i : Nat} {m : Int} (hs : σ[i]? = some (some (.ref s))) (hm : ∀ H1, Sm (· = s) H H1 → Ev te σ H1 (.int m)) (h0 : 0 < m) (h1 : m < 1000000) : EvD s (tCall spDraw [] E0 (tCons (tVar i) (tCons te tNil))) σ H (fun v => ∃ r : Nat, v = .int (r : Int) ∧ (r : Int) < m) := fun H1 e src Q q =>
  ⟨_, hs, hm H1 e H1 (Ex.refl _) _ fun H2 e2 => ⟨s, m, rfl, h0, h1, src.ex e2, fun r H3 hr s3 e3 => q _ H3 ⟨r, rfl, hr⟩ s3 (Sm.pre e2 e3)⟩⟩
theorem EvD.op {P P2 : V → Prop} (h : EvD s ta σ H P) (hb : ∀ H1, Sm (· = s) H H1 → Ev tb σ H1 y) (hr : ∀ x, P x → ∀ H1, ∃ z, P2 z ∧ RV r x y H1 z) : EvD s (tOp r ta tb) σ H P2 := fun H1 e src Q q =>
  h H1 e src _ fun x H2 px s2 e2 => hb H2 (e.trans e2) H2 (Ex.refl _) _ fun H3 e3 => by
    obtain ⟨z, pz, hz⟩ := hr x px H3
    exact hz H3 (Ex.refl _) Q fun H4 e4 => q z H4 pz ((s2.ex e3).ex e4) ((e2.ex e3).ex e4)
/-- draw(..) == 0 -/
theorem EvD.eq0 {m : Int} (h : EvD s ta σ H (fun v => ∃ r : Nat, v = .int (r : Int) ∧ (r : Int) < m)) : EtD s (tTest (tOp rEq ta (tC (.int 0)))) σ H (fun _ => True) := fun H1 e src Q q =>
  h H1 e src _ fun x H2 ⟨r, hx, _⟩ s2 e2 => by
    subst hx
    exact ⟨rfl, _, rfl, q _ H2 trivial s2 e2⟩
theorem EvD.gt0 {m : Int} (h : EvD s ta σ H (fun v => ∃ r : Nat, v = .int (r : Int) ∧ (r : Int) < m)) : EtD s (tTest (tOp (rI0 fun i j => .bl (decide (j < i))) ta (tC (.int 0)))) σ H (fun _ => True) := fun H1 e src Q q =>
  h H1 e src _ fun x H2 ⟨r, hx, _⟩ s2 e2 => by
    subst hx
    exact ⟨_, _, rfl, rfl, _, rfl, q _ H2 trivial s2 e2⟩
/-- draw(.., 2001) - 1000 -/
theorem ed_val {i : Nat} (hs : σ[i]? = some (some (.ref s))) : EvD s (tOp (rI0 fun i j => .int (i - j)) (tCall spDraw [] E0 (tCons (tVar i) (tCons (tC (.int 2001)) tNil))) (tC (.int 1000))) σ H (fun v => ∃ i : Int, v = .int i) :=
  (ed_draw hs (fun H1 _ => ev_c) (by decide) (by decide)).op (fun H1 _ => ev_c) fun x ⟨r, hx, _⟩ H1 => ⟨.int ((r : Int) - 1000), ⟨_, rfl⟩, by subst hx; exact rv_I0⟩
/-- a comprehension whose test draws -/
def Dw (s : Addr) (H : Hp) (G : Nat → Prop) (n : Nat) (Dl : Addr) (i : Nat) (H' : Hp) : Prop := H Dl = none ∧ Src H' s ∧ Sm (· = s) H H' ∧ ∃ l : List Nat, H' Dl = some (.lst (nv l)) ∧ (∀ x ∈ l, 1 ≤ x ∧ x ≤ i ∧ G x) ∧ l.Pairwise (· < ·)
theorem dw_turn {G : Nat → Prop} {Dl : Addr} {n i : Nat} {σ2 : L2.St} (src0 : Src H s) (p : Dw s H G n Dl i H') (hi : i < 50000) (ht : EtD s t σ2 H (fun b => b = true → G (i + 1))) (he : ∀ H1, Ev te σ2 H1 (.int ((i + 1 : Nat) : Int))) :
    t σ2 H' fun b H3 => if b = true then te σ2 H3 fun y H4 => ∃ acc, H4 Dl = some (.lst acc) ∧ acc.length < sizeLine ∧ Dw s H G n Dl (i + 1) (upd H4 Dl (.lst (acc ++ [y]))) else Dw s H G n Dl (i + 1) H3 := by
  obtain ⟨p1, p2, p3, l, p4, p5, p6⟩ := p
  have nDs : Dl ≠ s := fun e => by subst e; exact src0.some p1
  refine ht H' p3 p2 _ fun b H3 hb s3 e3 => it2 (fun hb1 => ?_) (fun hb1 => ?_)
  · refine he H3 H3 (Ex.refl _) _ fun H4 e4 => ?_
    have h4 : H4 Dl = some (.lst (nv l)) := e4 _ _ (e3 _ _ p4 nDs)
    have hll : l.length ≤ i := len_le_of (fun x hx => ⟨(p5 x hx).1, (p5 x hx).2.1⟩) p6
    refine ⟨nv l, h4, sz_lt (by rw [nv_len]; omega), p1, ?_, ?_, l ++ [i + 1], ?_, fun x hx => ?_, ?_⟩
    · obtain ⟨c0, c1, c2, hc⟩ := s3.ex e4
      exact ⟨c0, c1, c2, by rw [upd_ne nDs.symm]; exact hc⟩
    · exact ((p3.trans e3).ex e4).upd (.inr p1)
    · rw [upd_same]; simp [nv]
    · rcases List.mem_append.mp hx with hx | hx
      · have := p5 x hx
        exact ⟨this.1, by omega, this.2.2⟩
      · have : x = i + 1 := by simpa using hx
        subst this
        exact ⟨by omega, Nat.le_refl _, hb hb1⟩
    · rw [List.pairwise_append]
      refine ⟨p6, by simp, fun a ha b hb => ?_⟩
      have : b = i + 1 := by simpa using hb
      have := p5 a ha
      omega
  · exact ⟨p1, s3, p3.trans e3, l, e3 _ _ p4 nDs, fun x hx => by have := p5 x hx; exact ⟨this.1, by omega, this.2.2⟩, p6⟩
theorem dc_R2 {ta : TA} {j : Nat} {vs : List Nat} {n : Nat} {hi : Int} (G : Nat → Prop) (src : Src H s) (h : EvA ta σ H [.int 1, .int hi]) (eh : hi = (n : Int) + 1) (hn : n ≤ 1000) (hw : ∀ x, wipe ((wipe σ vs).set j (some x)) vs = wipe σ vs)
    (ht : ∀ (o : Nat), 1 ≤ o → o ≤ n → EtD s t ((wipe σ vs).set j (some (.int (o : Int)))) H (fun b => b = true → G o)) (he : ∀ (o : Nat) H1, Ev te ((wipe σ vs).set j (some (.int (o : Int)))) H1 (.int (o : Int))) {Q : VK}
    (q : ∀ p (l : List Nat) H2, H p = none → H2 p = some (.lst (nv l)) → (∀ x ∈ l, 1 ≤ x ∧ x ≤ n ∧ G x) → l.Pairwise (· < ·) → Src H2 s → Sm (· = s) H H2 → Q (.ref p) H2) : tLc (iRng2 ta) (gName j) t te vs σ H Q := by
  subst eh
  have c : ∀ i : Nat, (1 : Int) + (i : Int) = ((i + 1 : Nat) : Int) := fun i => by omega
  refine h H (Ex.refl _) _ fun H1 e1 => ⟨1, _, rfl, ⟨by omega, by omega, by omega, by omega⟩, fun Dl hD => ?_⟩
  rw [show ((n : Int) + 1 - 1).toNat = n by omega]
  have nDs : Dl ≠ s := fun e => by subst e; exact (src.ex e1).some hD
  refine lc_range (lo := 1) (n := n) (Dw s H1 G n Dl) ⟨hD, ?_, Sm.of (Ex.new hD), [], upd_same, fun x hx => (nomatch hx), .nil⟩ (fun i H' hi p => ?_) (fun H' p => ?_)
  · obtain ⟨c0, c1, c2, hc⟩ := src.ex e1
    exact ⟨c0, c1, c2, by rw [upd_ne nDs.symm]; exact hc⟩
  · rw [c i]
    refine ⟨hw _, dw_turn (src.ex e1) p (by omega) (fun H2 e2 s2 => ht (i + 1) (by omega) (by omega) H2 (Sm.pre e1 e2) s2) (fun H2 => he (i + 1) H2)⟩
  · obtain ⟨p1, p2, p3, l, p4, p5, p6⟩ := p
    exact q Dl l H' (fresh_back e1 p1) p4 (fun x hx => ⟨(p5 x hx).1, (p5 x hx).2.1, (p5 x hx).2.2⟩) p6 p2 (Sm.pre e1 p3)
end
section
variable {w : World} {K : PySem.W.Frag} {mg : Str → Option Value} {base : Heap}
theorem sc_l_source : FnScope ["_law_script", "_law_place", "_law_cell"] ["_law_script", "_law_place"] (defScope s_l_source) := ⟨rfl, rfl, rfl, by decide +kernel, rfl, by decide +kernel, by decide +kernel⟩
def spSource (K : PySem.W.Frag) : Sp := fun vs H Q _ => ∃ (a : Addr) (ns : List Int) (pl : Nat), vs = [.ref a, .int (pl : Int)] ∧ SqL K H a (ns.map V.int) ∧ ∀ p H', H p = none → Ex H H' → Src H' p → Q (.ref p) H'
theorem ev_abs {σ : L2.St} {H : Hp} {te : TE} {i : Int} (h : Ev te σ H (.int i)) : Ev (tCB (fun xs H Q => ∃ i, xs = [V.int i] ∧ Q (.int (if i < 0 then -i else i)) H) (tCons te tNil)) σ H (.int (if i < 0 then -i else i)) := fun H1 e Q q =>
  h H1 e _ fun H2 e2 => ⟨i, rfl, q H2 e2⟩
theorem ev_int {σ : L2.St} {H : Hp} {te : TE} {i : Int} (h : Ev te σ H (.int i)) : Ev (tCB (fun xs H Q => (∃ i, xs = [V.int i] ∧ Q (.int i) H) ∨ ∃ k, xs = [V.bl k] ∧ Q (.int (if k then 1 else 0)) H) (tCons te tNil)) σ H (.int i) := fun H1 e Q q =>
  h H1 e _ fun H2 e2 => .inl ⟨i, rfl, q H2 e2⟩
theorem ok_l_source (T : Txt K mg) : OkC PP w K mg base CX0 1 ("_law_source", none) ["_law_script", "_law_place"] (spSource K) :=
  ok0 T.F_l_source sc_l_source (fun _ _ _ _ _ _ us hl => match us, hl with | [_, _], _ => rfl) (by rintro vs H Q E ⟨a, ns, pl, rfl, _⟩; rfl) fun f cdv A0 outer s0 H vs Q E hr h => by
    obtain ⟨a, ns, pl, rfl, ha, k⟩ := h
    refine ⟨_, (pss_cons (ps_set (i := 2) sc_l_source.nd rfl (Or.inl rfl) (pe_ifExp (pt_cmpR op_lt (pv 1) (pe_callB (call_lenK (K := K)) (by rfl) T.z_len (by decide +kernel) (pa_cons (pv 0) pa_nil)) (nomark _)) (pe_callB call_abs (by rfl) T.z_abs (by decide +kernel) (pa_cons (pe_callTy call_int1 (by rfl) T.z_int (by decide +kernel) (pa_cons (pe_ix (ix_listK (K := K)) (pv 0) (pv 1) (fun _ _ => rfl)) pa_nil)) pa_nil)) (pe_op op_add (pe_op op_add pe_int (pe_op op_mul pe_int (pv 1))) (pe_op op_mul pe_int (pe_callB (call_lenK (K := K)) (by rfl) T.z_len (by decide +kernel) (pa_cons (pv 0) pa_nil)))))) (pss_one (ps_ret (pe_lst (pa_cons (pv 2) (pa_cons (pe_ifExp (pt_cmpR op_ge (pv 2) (pe_op op_pow pe_int pe_int) (nomark _)) (pv 2) pe_int) (pa_cons pe_int pa_nil))))))), ?_⟩
    refine q_asg (v := .int (if pl < ns.length then (if ns.getD pl 0 < 0 then -(ns.getD pl 0) else ns.getD pl 0) else 7 + 31 * (pl : Int) + 1009 * (ns.length : Int))) (ev_if (b := decide ((pl : Int) < ((ns.map V.int).length : Int))) (et_test (ev_op (ev_var rfl) (ev_len (ev_var rfl) ha) rv_I0)) (fun hb => ?_) (fun hb => ?_)) fun H1 e1 => ?_
    · have hp : pl < ns.length := by have := of_decide_eq_true hb; rw [List.length_map] at this; omega
      rw [if_pos hp]
      refine ev_abs (ev_int (ev_op (ev_var rfl) (ev_var rfl) (rv_ixL ha (atI_nat ?_))))
      rw [List.getElem?_map, List.getElem?_eq_getElem hp, List.getD_eq_getElem?_getD, List.getElem?_eq_getElem hp]
      rfl
    · have hp : ¬ pl < ns.length := by have := of_decide_eq_false hb; rw [List.length_map] at this; omega
      rw [if_neg hp]
      refine ev_op (ev_op ev_c (ev_op ev_c (ev_var rfl) (rv_I (.inl (by decide)))) rv_I0) (ev_is (ev_op ev_c (ev_len (ev_var rfl) ha) (rv_I (.inl (by decide)))) (by rw [List.length_map])) rv_I0
    · generalize (if pl < ns.length then (if ns.getD pl 0 < 0 then -(ns.getD pl 0) else ns.getD pl 0) else 7 + 31 * (pl : Int) + 1009 * (ns.length : Int)) = c
      refine s_retL (el_lst (ea_cons (ev_var rfl) (ea_cons (ev_is (v := .int (if (10 : Int) ^ 18 ≤ c then c else 0)) (ev_if (b := decide ((10 : Int) ^ 18 ≤ c)) (et_test (ev_op (ev_var rfl) (ev_op ev_c ev_c (rv_I ⟨by decide, by decide, by decide⟩)) rv_I0)) (fun hb => ?_) (fun hb => ?_)) rfl) (ea_cons ev_c ea_nil))) (by show 3 ≤ 100000; decide)) fun p H2 np e2 h2 => k p H2 (fresh_back e1 np) (e1.trans e2) ⟨_, _, _, h2⟩
      · rw [if_pos (of_decide_eq_true hb)]
        exact ev_var rfl
      · rw [if_neg (of_decide_eq_false hb)]
        exact ev_c
theorem sc_l_writes : FnScope ["_law_source_here", "_law_cells", "_law_first", "_law_writes_here", "_law_second"] ["_law_source_here", "_law_cells"] (defScope s_l_writes) := ⟨rfl, rfl, rfl, by decide +kernel, rfl, by decide +kernel, by decide +kernel⟩
def spWrites : Sp := fun vs H Q _ => ∃ (s : Addr) (c : Nat), vs = [.ref s, .int (c : Int)] ∧ 1 ≤ c ∧ c ≤ 1000 ∧ Src H s ∧ ∀ p ts wr H', H p = none → (∀ t ∈ ts, H t = none) → Src H' s → Sm (· = s) H H' → H' p = some (.lst (ts.map V.ref)) → Tups H' ts wr → Wok c wr → Q (.ref p) H'
theorem ok_l_writes (T : Txt K mg) : OkC PP w K mg base CX0 2 ("_law_writes", none) ["_law_source_here", "_law_cells"] spWrites :=
  ok0 T.F_l_writes sc_l_writes (fun _ _ _ _ _ _ us hl => match us, hl with | [_, _], _ => rfl) (by rintro vs H Q E ⟨s, c, rfl, _⟩; rfl) fun f cdv A0 outer s0 H vs Q E hr h => by
    obtain ⟨s, c, rfl, hc0, hc1, src, k⟩ := h
    refine ⟨_, (pss_cons (ps_set (i := 2) sc_l_writes.nd rfl (Or.inl rfl) (pe_c (ok_l_draw T) (hr.mono (by decide)) T.g_l_draw pass0 (pa_cons (pv 0) (pa_cons (pv 1) pa_nil)))) (pss_cons (ps_set (i := 3) sc_l_writes.nd rfl (Or.inl rfl) (pe_lst (pa_cons (pe_tup (pa_cons (pv 2) (pa_cons (pe_op op_sub (pe_c (ok_l_draw T) (hr.mono (by decide)) T.g_l_draw pass0 (pa_cons (pv 0) (pa_cons pe_int pa_nil))) pe_int) pa_nil))) pa_nil))) (pss_cons (ps_if (PW.pt (pw_and (pt_cmpR op_gt (pv 1) pe_int (nomark _)) (pw_and1 (pt_cmpR op_eq (pe_c (ok_l_draw T) (hr.mono (by decide)) T.g_l_draw pass0 (pa_cons (pv 0) (pa_cons pe_int pa_nil))) pe_int (nomark _))))) (pss_cons (ps_set (i := 4) sc_l_writes.nd rfl (Or.inl rfl) (pe_op op_modN (pe_callTy call_int1 (by rfl) T.z_int (by decide +kernel) (pa_cons (pe_op op_add (pe_op op_add (pv 2) pe_int) (pe_c (ok_l_draw T) (hr.mono (by decide)) T.g_l_draw pass0 (pa_cons (pv 0) (pa_cons (pe_op op_sub (pv 1) pe_int) pa_nil)))) pa_nil)) (pv 1))) (pss_one (ps_expr (pe_appK (K := K) (pv 3) (pa_cons (pe_tup (pa_cons (pv 4) (pa_cons (pe_op op_sub (pe_c (ok_l_draw T) (hr.mono (by decide)) T.g_l_draw pass0 (pa_cons (pv 0) (pa_cons pe_int pa_nil))) pe_int) pa_nil))) pa_nil))))) pss_nil) (pss_one (ps_ret (pv 3)))))), ?_⟩
    refine ed_draw (H := H) rfl (fun H1 _ => ev_var rfl) (by omega) (by omega) H (Sm.refl _ _) src _ ?_
    rintro _ H1 ⟨r1, rfl, hr1⟩ src1 e1
    refine ⟨_, rfl, ?_⟩
    refine ed_val rfl H1 (Sm.refl _ _) src1 _ ?_
    rintro _ H2 ⟨v1, rfl⟩ src2 e2
    refine ⟨sz_of (by show 2 ≤ 100000; decide), fun t1 ht1 => ?_⟩
    refine ⟨sz_of (by show 1 ≤ 100000; decide), fun p hp => ?_⟩
    have nt1 : H t1 = none := ((e1.trans e2).free ht1).resolve_left fun e => by subst e; exact src2.some ht1
    have hp2 : H2 p = none := fresh_back (Ex.new ht1) hp
    have np : H p = none := ((e1.trans e2).free hp2).resolve_left fun e => by subst e; exact src2.some hp2
    have nps : p ≠ s := fun e => by subst e; exact src2.some hp2
    have e3 : Ex H2 (upd (upd H2 t1 (.tup [.int (r1 : Int), .int v1])) p (.lst [.ref t1])) := (Ex.new ht1).trans (Ex.new hp)
    have ht1' : (upd (upd H2 t1 (.tup [.int (r1 : Int), .int v1])) p (.lst [.ref t1])) t1 = some (.tup [.int (r1 : Int), .int v1]) := Ex.new hp _ _ upd_same
    have hp' : (upd (upd H2 t1 (.tup [.int (r1 : Int), .int v1])) p (.lst [.ref t1])) p = some (.lst [.ref t1]) := upd_same
    have src3 := src2.ex e3
    have e03 := (e1.trans e2).ex e3
    have fin1 : ∀ H4, Src H4 s → Sm (· = s) (upd (upd H2 t1 (.tup [.int (r1 : Int), .int v1])) p (.lst [.ref t1])) H4 → Q (.ref p) H4 := fun H4 s4 e4 =>
      k p [t1] [((r1 : Int), v1)] H4 np (by simpa using nt1) s4 (e03.trans e4) (e4 _ _ hp' nps) ⟨e4 _ _ ht1' fun e => by subst e; exact src2.some ht1, trivial⟩ ⟨by simp, by simp; omega, by simp, by simp⟩
    revert hp' ht1' src3 e03 fin1
    generalize upd (upd H2 t1 (.tup [.int (r1 : Int), .int v1])) p (.lst [.ref t1]) = H3
    intro ht1' hp' src3 e03 fin1
    have last : ∀ H4 σ4, σ4[3]? = some (some (.ref p)) → Src H4 s → Sm (· = s) H3 H4 → tRet (tVar 3) { nx := fun x H' => Q V.non H', rt := Q } σ4 H4 := fun H4 σ4 h4 s4 e4 => ⟨_, h4, fin1 H4 s4 e4⟩
    refine ⟨_, rfl, ?_⟩
    refine ⟨_, _, rfl, rfl, ?_⟩
    refine ⟨_, rfl, ?_⟩
    refine it2 (fun h1 => ?_) (fun h1 => ?_)
    · refine (ed_draw rfl (fun H1 _ => ev_c) (by decide) (by decide)).eq0 H3 (Sm.refl _ _) src3 _ ?_
      rintro b H4 _ src4 e4
      refine it2 (fun h2 => ?_) (fun h2 => ?_)
      · refine ⟨_, rfl, ?_⟩
        refine ⟨_, _, rfl, rfl, ?_⟩
        have hc2 : 1 < (c : Int) := of_decide_eq_true h1
        refine ed_draw (H := H4) rfl (fun H1 _ => ev_op (ev_var rfl) ev_c rv_I0) (by omega) (by omega) H4 (Sm.refl _ _) src4 _ ?_
        rintro _ H5 ⟨r2, rfl, hr2⟩ src5 e5
        refine ⟨_, _, rfl, rfl, ?_⟩
        refine .inl ⟨_, rfl, ?_⟩
        refine ⟨_, rfl, ?_⟩
        refine ⟨_, _, rfl, rfl, by omega, ?_⟩
        obtain ⟨q2, eq2, hq2⟩ := fmod_nat (i := (r1 : Int) + 1 + (r2 : Int)) (m := (c : Int)) (by omega)
        have ne : ¬ ((q2 : Int) = (r1 : Int)) := by
          rw [Int.fmod_eq_emod_of_nonneg _ (by omega)] at eq2
          by_cases hlt : (r1 : Int) + 1 + r2 < c
          · rw [Int.emod_eq_of_lt (by omega) hlt] at eq2
            omega
          · rw [← Int.sub_emod_right, Int.emod_eq_of_lt (by omega) (by omega)] at eq2
            omega
        show tDrop (tBM K "list" rAppend (tVar 3) (tCons (tTup (tCons (tVar 4) (tCons (tOp (rI0 fun i j => V.int (i - j)) (tCall spDraw [] E0 (tCons (tVar 0) (tCons (tC (V.int 2001)) tNil))) (tC (V.int 1000))) tNil))) tNil)) { nx := tRet (tVar 3) { nx := fun x H' => Q V.non H', rt := Q }, rt := Q } [some (V.ref s), some (V.int (c : Int)), some (V.int (r1 : Int)), some (V.ref p), some (V.int (((r1 : Int) + 1 + (r2 : Int)).fmod c))] H5
        rw [eq2]
        have e35 := e4.trans e5
        have hp5 := e35 _ _ hp' nps
        refine ⟨_, rfl, .inl ⟨rfl, _, SqL.of hp5⟩, ?_⟩
        refine ⟨_, rfl, ?_⟩
        refine ed_val rfl H5 (Sm.refl _ _) src5 _ ?_
        rintro _ H6 ⟨v2, rfl⟩ src6 e6
        refine ⟨sz_of (by show 2 ≤ 100000; decide), fun t2 ht2 => ?_⟩
        have e36 := e35.trans e6
        have hp6 := e36 _ _ hp' nps
        have n36 : H t2 = none := ((e03.trans e36).free ht2).resolve_left fun e => by subst e; exact src6.some ht2
        have hne : p ≠ t2 := ne_of_none hp6 ht2
        have ht16 : H6 t1 = some (.tup [.int (r1 : Int), .int v1]) := e36 _ _ ht1' fun e => by subst e; exact src2.some ht1
        refine ⟨p, [.ref t1], _, rfl, rfl, ?_, small1000 (by show 1 ≤ 1000; decide), ?_⟩
        · rw [upd_ne hne]; exact hp6
        have hne1 : t1 ≠ p := ne_of ht16 hp6 (fun e => nomatch e)
        refine ⟨_, rfl, k p [t1, t2] [((r1 : Int), v1), ((q2 : Int), v2)] _ np (by simp [nt1, n36]) ?_ ?_ upd_same ⟨?_, ?_, trivial⟩ ⟨by simp, ?_, ?_, by simp⟩⟩
        · obtain ⟨c0, c1, c2, hc⟩ := src6
          exact ⟨c0, c1, c2, by rw [upd_ne nps.symm, upd_ne (ne_of_none hc ht2)]; exact hc⟩
        · exact Sm.upd (Sm.upd (e03.trans e36) (.inr n36)) (.inr np)
        · rw [upd_ne hne1, upd_ne (ne_of_none ht16 ht2)]; exact ht16
        · rw [upd_ne hne.symm]; exact upd_same
        · intro q hq
          rcases List.mem_cons.mp hq with rfl | hq
          · exact ⟨by show (0 : Int) ≤ r1; omega, hr1⟩
          · rcases List.mem_cons.mp hq with rfl | hq
            · exact ⟨by show (0 : Int) ≤ q2; omega, hq2⟩
            · cases hq
        · have : ¬ ((r1 : Int) = (q2 : Int)) := fun e => ne e.symm
          simp
          omega
      · exact last H4 _ rfl src4 e4
    · refine it2 (fun h => by cases h) (fun _ => ?_)
      exact last H3 _ rfl src3 (Sm.refl _ _)
end
end K27
set_option Elab.async false
set_option linter.all false
set_option maxRecDepth 100000
set_option maxHeartbeats 4000000
/-! K27Mp: the model while it grows by one patch. -/
namespace K27
open PySem PySem.Spec PyProof.Rows L2 Evl
/-- row i of the model, with what was appended to it -/
def curr (L : Lay) (A : Ab) (x : Nat → Option V) (i : Nat) : List V := (if i = 2 then (List.range (A.n + 1)).map (fun k => V.int (A.sz k)) else rowsOf L A.n i) ++ (x i).toList
structure Mp (H : Hp) (L : Lay) (A : Ab) (x : Nat → Option V) : Prop where
  rm : L.ρ L.m = .top
  rl : ∀ i, i ≤ 6 → L.ρ (L.l i) = .ls i
  ra : ∀ i k, five i → k ≤ A.n → L.ρ (L.a i k) = .inn i k
  tr : ∀ b, L.ρ b ≠ .no → H b ≠ none
  m : H L.m = some (.lst [.ref (L.l 0), .ref (L.l 1), .ref (L.l 2), .ref (L.l 3), .ref (L.l 4), .ref (L.l 5), .ref (L.l 6)])
  base : ∃ xs : List Int, H (L.l 0) = some (.lst (xs.map V.int)) ∧ xs.length = A.cells
  o : ∀ i, 1 ≤ i → i ≤ 6 → H (L.l i) = some (.lst (curr L A x i))
  i1 : ∀ k, k ≤ A.n → ∃ ts : List Addr, H (L.a 1 k) = some (.lst (ts.map V.ref)) ∧ Tups H ts (A.ws k) ∧ ∀ t ∈ ts, L.ρ t = .tp
  i3 : ∀ k, k ≤ A.n → H (L.a 3 k) = some (.lst (nv (asc A.n (A.R k))))
  i5 : ∀ k, k ≤ A.n → H (L.a 5 k) = some (.lst (nv (A.dem k)))
  i6 : ∀ k, k ≤ A.n → H (L.a 6 k) = some (.lst (nv (A.qua k)))
  nmax : A.n ≤ 30
  c1 : 1 ≤ A.cells
  c2 : A.cells ≤ 20
section
variable {H H' : Hp} {L : Lay} {A : Ab} {x : Nat → Option V} {U : Addr → Prop}
theorem Md.mp (h : Md H L A) : Mp H L A (fun _ => none) :=
  ⟨h.rm, h.rl, h.ra, h.tr, h.m, h.base, fun i h1 h6 => by
    by_cases e : i = 2
    · subst e
      have := h.o2
      simpa [curr] using this
    · have : five i := by unfold five; omega
      have := h.o i this
      simpa [curr, e] using this, h.i1, h.i3, h.i5, h.i6, h.nmax, h.c1, h.c2⟩
/-- U holds none of the model but, maybe, the lists of the bars -/
theorem Mp.sm (h : Mp H L A x) (s : Sm U H H') (hu : ∀ b, U b → L.ρ b = .no ∨ ∃ k, L.ρ b = .inn 4 k) (ht : ∀ b, L.ρ b ≠ .no → H' b ≠ none) : Mp H' L A x := by
  have k : ∀ b o, L.ρ b ≠ .no → (∀ j, L.ρ b ≠ .inn 4 j) → H b = some o → H' b = some o := fun b o hb hj e => s b o e fun u => by
    rcases hu b u with q | ⟨j, q⟩
    · exact hb q
    · exact hj j q
  have kl : ∀ i o, i ≤ 6 → H (L.l i) = some o → H' (L.l i) = some o := fun i o hi e => k _ _ (by rw [h.rl i hi]; exact fun e => nomatch e) (by rw [h.rl i hi]; exact fun _ e => nomatch e) e
  have ka : ∀ i j o, five i → i ≠ 4 → j ≤ A.n → H (L.a i j) = some o → H' (L.a i j) = some o := fun i j o hi h4 hj e => k _ _ (by rw [h.ra i j hi hj]; exact fun e => nomatch e) (by rw [h.ra i j hi hj]; exact fun _ e => by injection e with e1 e2; exact h4 e1) e
  refine ⟨h.rm, h.rl, h.ra, ht, k _ _ (by rw [h.rm]; exact fun e => nomatch e) (by rw [h.rm]; exact fun _ e => nomatch e) h.m, ?_, fun i h1 h6 => kl _ _ h6 (h.o i h1 h6), fun j hj => ?_, fun j hj => ka _ _ _ five3 (by decide) hj (h.i3 j hj), fun j hj => ka _ _ _ five5 (by decide) hj (h.i5 j hj), fun j hj => ka _ _ _ five6 (by decide) hj (h.i6 j hj), h.nmax, h.c1, h.c2⟩
  · obtain ⟨xs, e, l⟩ := h.base
    exact ⟨xs, kl _ _ (by omega) e, l⟩
  · obtain ⟨ts, e, t, r⟩ := h.i1 j hj
    exact ⟨ts, ka _ _ _ five1 (by decide) hj e, t.keep fun b hb o q => k b o (by rw [r b hb]; exact fun e => nomatch e) (by rw [r b hb]; exact fun _ e => nomatch e) q, r⟩
theorem tr_sm (ht : ∀ b, L.ρ b ≠ .no → H b ≠ none) (s : Sm U H H') (hu : ∀ b, U b → L.ρ b = .no) : ∀ b, L.ρ b ≠ .no → H' b ≠ none := fun b hb e => by
  cases q : H b with
  | none => exact ht b hb q
  | some o => rw [s b o q fun u => hb (hu b u)] at e; cases e
theorem Mp.no (h : Mp H L A x) {p : Addr} (hp : H p = none) : L.ρ p = .no := by
  cases e : L.ρ p with
  | no => rfl
  | _ => exact absurd hp (h.tr p (by rw [e]; exact fun q => nomatch q))
def put (x : Nat → Option V) (i : Nat) (v : V) : Nat → Option V := fun j => if j = i then some v else x j
theorem Mp.app (h : Mp H L A x) {i : Nat} (h1 : 1 ≤ i) (h6 : i ≤ 6) (hx : x i = none) (v : V) : Mp (upd H (L.l i) (.lst (curr L A x i ++ [v]))) L A (put x i v) := by
  have ri := h.rl i h6
  have k : ∀ b o, L.ρ b ≠ .ls i → H b = some o → upd H (L.l i) (.lst (curr L A x i ++ [v])) b = some o := fun b o hb e => by
    rw [upd_ne (fun q => hb (by rw [q]; exact ri))]
    exact e
  have ka : ∀ i' j o, five i' → j ≤ A.n → H (L.a i' j) = some o → upd H (L.l i) (.lst (curr L A x i ++ [v])) (L.a i' j) = some o := fun i' j o hi hj e => k _ _ (by rw [h.ra i' j hi hj]; exact fun e => nomatch e) e
  refine ⟨h.rm, h.rl, h.ra, fun b hb => ?_, k _ _ (by rw [h.rm]; exact fun e => nomatch e) h.m, ?_, fun j j1 j6 => ?_, fun j hj => ?_, fun j hj => ka _ _ _ five3 hj (h.i3 j hj), fun j hj => ka _ _ _ five5 hj (h.i5 j hj), fun j hj => ka _ _ _ five6 hj (h.i6 j hj), h.nmax, h.c1, h.c2⟩
  · unfold upd
    split
    · exact fun e => nomatch e
    · exact h.tr b hb
  · obtain ⟨xs, e, l⟩ := h.base
    exact ⟨xs, k _ _ (by rw [h.rl 0 (by omega)]; intro e; injection e with e; omega) e, l⟩
  · by_cases e : j = i
    · subst e
      rw [upd_same]
      simp [curr, put, hx]
    · rw [k _ _ (by rw [h.rl j j6]; intro q; injection q with q; exact e q) (h.o j j1 j6)]
      simp [curr, put, e]
  · obtain ⟨ts, e, t, r⟩ := h.i1 j hj
    exact ⟨ts, ka _ _ _ five1 hj e, t.keep fun b hb o q => k b o (by rw [r b hb]; exact fun e => nomatch e) q, r⟩
theorem Mp.sm' (h : Mp H L A x) (s : Sm U H H') (hu : ∀ b, U b → L.ρ b = .no) : Mp H' L A x := h.sm s (fun b u => .inl (hu b u)) (tr_sm h.tr s hu)
end
section
variable {K : PySem.W.Frag} {σ : L2.St} {H H' : Hp} {ta tb te tx tm tk : TE} {t u : TT} {y z v : V} {r : R2} {s : Addr} {L : Lay} {A : Ab} {x : Nat → Option V} {U : Addr → Prop} {D : Ends} {tz : TS}
theorem Mp.evl {i : Nat} (h : Mp H L A x) (hm : Ev tm σ H (.ref L.m)) (hi : i ≤ 6) : Ev (tOp (rIxL K) tm (tC (.int (i : Int)))) σ H (.ref (L.l i)) := by
  refine ev_op hm ev_c (rv_ixL (SqL.of h.m) ?_)
  have : i = 0 ∨ i = 1 ∨ i = 2 ∨ i = 3 ∨ i = 4 ∨ i = 5 ∨ i = 6 := by omega
  rcases this with e | e | e | e | e | e | e <;> subst e <;> rfl
theorem curr_len {i : Nat} : (curr L A x i).length ≤ A.n + 2 := by
  unfold curr
  rw [List.length_append]
  have : ((if i = 2 then (List.range (A.n + 1)).map (fun k => V.int (A.sz k)) else rowsOf L A.n i)).length = A.n + 1 := by split <;> simp
  have : (x i).toList.length ≤ 1 := by cases x i <;> simp
  omega
/-- model[i].append(e) -/
theorem q_mapp {i : Nat} {P : V → Hp → Prop} (h : Mp H L A x) (h1 : 1 ≤ i) (h6 : i ≤ 6) (hx : x i = none) (hU : ∀ b, U b → L.ρ b = .no) (hm : ∀ H1, Ev tm σ H1 (.ref L.m))
    (ht : ∀ H1, Ex H H1 → ∀ Q : VK, (∀ v H2, Sm U H1 H2 → P v H2 → Q v H2) → te σ H1 Q)
    (k : ∀ v H2, Sm U H H2 → P v H2 → Sm (fun b => U b ∨ b = L.l i) H (upd H2 (L.l i) (.lst (curr L A x i ++ [v]))) → Mp (upd H2 (L.l i) (.lst (curr L A x i ++ [v]))) L A (put x i v) → tz D σ (upd H2 (L.l i) (.lst (curr L A x i ++ [v])))) :
    tSeq (tDrop (tBM K "list" rAppend (tOp (rIxL K) tm (tC (.int (i : Int)))) (tCons te tNil))) tz D σ H := h.evl (hm H) h6 H (Ex.refl _) _ fun H1 e1 =>
  ⟨.inl ⟨rfl, _, SqL.of (e1 _ _ (h.o i h1 h6))⟩, ht H1 e1 _ fun v H2 s2 p2 => by
    have s02 := Sm.pre e1 s2
    have h2 := h.sm' s02 hU
    refine ⟨L.l i, curr L A x i, v, rfl, rfl, h2.o i h1 h6, small1000 ?_, ?_⟩
    · have := curr_len (L := L) (A := A) (x := x) (i := i)
      have := h.nmax
      omega
    · exact k v H2 s02 p2 (Sm.upd (s02.mono fun b hb => .inl hb) (.inl (.inr rfl))) (h2.app h1 h6 hx v)⟩
end
/-! ### the model grown -/
def Lay.grow (L : Lay) (n : Nat) (w nd br dm qu : Addr) (ts : List Addr) : Lay where
  m := L.m
  l := L.l
  a := fun i k => if k = n + 1 then (if i = 1 then w else if i = 3 then nd else if i = 4 then br else if i = 5 then dm else qu) else L.a i k
  ρ := fun b => if b = w then .inn 1 (n + 1) else if b = nd then .inn 3 (n + 1) else if b = br then .inn 4 (n + 1) else if b = dm then .inn 5 (n + 1) else if b = qu then .inn 6 (n + 1) else if b ∈ ts then .tp else L.ρ b
theorem nv_app (l m : List Nat) : nv (l ++ m) = nv l ++ nv m := by simp [nv]
theorem Md.grown {H H' : Hp} {L : Lay} {A : Ab} {wr : List (Int × Int)} {sz : Int} {N Bf : Nat → Bool} {dem qua : List Nat} {w nd br dm qu : Addr} {ts : List Addr} {x : Nat → Option V} (G : Good A) (ok : NewOk A wr sz N Bf dem qua) (hn : A.n ≤ 29)
    (h : Mp H L A x) (x1 : x 1 = some (.ref w)) (x2 : x 2 = some (.int sz)) (x3 : x 3 = some (.ref nd)) (x4 : x 4 = some (.ref br)) (x5 : x 5 = some (.ref dm)) (x6 : x 6 = some (.ref qu))
    (di : [w, nd, br, dm, qu].Nodup) (no : ∀ b ∈ [w, nd, br, dm, qu], L.ρ b = .no) (not : ∀ t ∈ ts, L.ρ t = .no)
    (hw : H w = some (.lst (ts.map V.ref))) (hT : Tups H ts wr) (hnd : H nd = some (.lst (nv (asc A.n N)))) (hbr : H br = some (.lst (nv (asc A.n Bf)))) (hdm : H dm = some (.lst (nv dem))) (hqu : H qu = some (.lst (nv qua)))
    (s : Sm (fun b => ∃ k, L.ρ b = .inn 4 k) H H') (h4 : ∀ k, k ≤ A.n → H' (L.a 4 k) = some (.lst (nv (asc A.n (A.B k) ++ if Bf k = true then [A.n + 1] else [])))) (t4 : ∀ b, (∃ k, L.ρ b = .inn 4 k) → H' b ≠ none) :
    Md H' (L.grow A.n w nd br dm qu ts) (push A wr sz N Bf dem qua) := by
  have k : ∀ b o, (∀ j, L.ρ b ≠ .inn 4 j) → H b = some o → H' b = some o := fun b o hb e => s b o e fun ⟨j, u⟩ => hb j u
  have kn : ∀ b o, L.ρ b = .no → H b = some o → H' b = some o := fun b o hb e => k b o (fun j q => by rw [hb] at q; cases q) e
  have nw : L.ρ w = .no := no w (by simp)
  have nnd : L.ρ nd = .no := no nd (by simp)
  have nbr : L.ρ br = .no := no br (by simp)
  have ndm : L.ρ dm = .no := no dm (by simp)
  have nqu : L.ρ qu = .no := no qu (by simp)
  have tsne : ∀ t ∈ ts, t ≠ w ∧ t ≠ nd ∧ t ≠ br ∧ t ≠ dm ∧ t ≠ qu := fun t ht => by
    have e : ∃ p : Int × Int, H t = some (.tup [.int p.1, .int p.2]) := by
      obtain ⟨i, hi, e⟩ := List.mem_iff_getElem.mp ht
      obtain ⟨p, _, hp⟩ := hT.get (i := i) (t := t) (by rw [List.getElem?_eq_getElem hi, e])
      exact ⟨p, hp⟩
    obtain ⟨p, hp⟩ := e
    exact ⟨ne_of hp hw (fun e => nomatch e), ne_of hp hnd (fun e => nomatch e), ne_of hp hbr (fun e => nomatch e), ne_of hp hdm (fun e => nomatch e), ne_of hp hqu (fun e => nomatch e)⟩
  have old : ∀ b, L.ρ b ≠ .no → (L.grow A.n w nd br dm qu ts).ρ b = L.ρ b := fun b hb => by
    show (if b = w then Role.inn 1 (A.n + 1) else if b = nd then .inn 3 (A.n + 1) else if b = br then .inn 4 (A.n + 1) else if b = dm then .inn 5 (A.n + 1) else if b = qu then .inn 6 (A.n + 1) else if b ∈ ts then .tp else L.ρ b) = L.ρ b
    rw [if_neg (fun e => hb (by rw [e]; exact nw)), if_neg (fun e => hb (by rw [e]; exact nnd)), if_neg (fun e => hb (by rw [e]; exact nbr)), if_neg (fun e => hb (by rw [e]; exact ndm)), if_neg (fun e => hb (by rw [e]; exact nqu)), if_neg (fun e => hb (not b e))]
  have aold : ∀ i j, j ≤ A.n → (L.grow A.n w nd br dm qu ts).a i j = L.a i j := fun i j hj => if_neg (by omega)
  simp only [List.nodup_cons, List.mem_cons, List.mem_nil_iff, or_false, not_or, List.not_mem_nil] at di
  obtain ⟨⟨d1, d2, d3, d4⟩, ⟨d5, d6, d7⟩, ⟨d8, d9⟩, d10, _⟩ := di
  have rnew : (L.grow A.n w nd br dm qu ts).ρ w = .inn 1 (A.n + 1) ∧ (L.grow A.n w nd br dm qu ts).ρ nd = .inn 3 (A.n + 1) ∧ (L.grow A.n w nd br dm qu ts).ρ br = .inn 4 (A.n + 1) ∧ (L.grow A.n w nd br dm qu ts).ρ dm = .inn 5 (A.n + 1) ∧ (L.grow A.n w nd br dm qu ts).ρ qu = .inn 6 (A.n + 1) := by
    refine ⟨?_, ?_, ?_, ?_, ?_⟩
    · exact if_pos rfl
    · show (if nd = w then Role.inn 1 (A.n + 1) else if nd = nd then .inn 3 (A.n + 1) else _) = _
      rw [if_neg (Ne.symm d1), if_pos rfl]
    · show (if br = w then Role.inn 1 (A.n + 1) else if br = nd then .inn 3 (A.n + 1) else if br = br then .inn 4 (A.n + 1) else _) = _
      rw [if_neg (Ne.symm d2), if_neg (Ne.symm d5), if_pos rfl]
    · show (if dm = w then Role.inn 1 (A.n + 1) else if dm = nd then .inn 3 (A.n + 1) else if dm = br then .inn 4 (A.n + 1) else if dm = dm then .inn 5 (A.n + 1) else _) = _
      rw [if_neg (Ne.symm d3), if_neg (Ne.symm d6), if_neg (Ne.symm d8), if_pos rfl]
    · show (if qu = w then Role.inn 1 (A.n + 1) else if qu = nd then .inn 3 (A.n + 1) else if qu = br then .inn 4 (A.n + 1) else if qu = dm then .inn 5 (A.n + 1) else if qu = qu then .inn 6 (A.n + 1) else _) = _
      rw [if_neg (Ne.symm d4), if_neg (Ne.symm d7), if_neg (Ne.symm d9), if_neg (Ne.symm d10), if_pos rfl]
  have anew : ∀ i, (L.grow A.n w nd br dm qu ts).a i (A.n + 1) = if i = 1 then w else if i = 3 then nd else if i = 4 then br else if i = 5 then dm else qu := fun i => if_pos rfl
  have lt1 : ∀ j o, A.R j o = true → o ≤ A.n := fun j o q => by
    have a := G.r_lt j o q
    have b := G.rrng j o q
    omega
  have kk : ∀ {j : Nat}, j ≤ A.n + 1 → j ≤ A.n ∨ j = A.n + 1 := fun h => by omega
  refine ⟨?_, fun i hi => ?_, fun i j hi hj => ?_, fun b hb => ?_, ?_, ?_, fun i hi => ?_, ?_, fun j hj => ?_, fun j hj => ?_, fun j hj => ?_, fun j hj => ?_, fun j hj => ?_, ?_, h.c1, h.c2⟩
  · exact (old L.m (by rw [h.rm]; exact fun e => nomatch e)).trans h.rm
  · exact (old (L.l i) (by rw [h.rl i hi]; exact fun e => nomatch e)).trans (h.rl i hi)
  · rcases kk hj with hj | hj
    · rw [aold i j hj]
      exact (old (L.a i j) (by rw [h.ra i j hi hj]; exact fun e => nomatch e)).trans (h.ra i j hi hj)
    · subst hj
      rw [anew i]
      rcases hi with rfl | rfl | rfl | rfl | rfl
      · exact rnew.1
      · exact rnew.2.1
      · exact rnew.2.2.1
      · exact rnew.2.2.2.1
      · exact rnew.2.2.2.2
  · intro hne
    have l0 : ∀ {b : Addr} {o : HO}, L.ρ b = .no → H b = some o → H' b ≠ none := fun hb e => by rw [kn _ _ hb e]; exact fun e => nomatch e
    by_cases e1 : b = w
    · subst e1; exact l0 nw hw hne
    by_cases e2 : b = nd
    · subst e2; exact l0 nnd hnd hne
    by_cases e3 : b = br
    · subst e3; exact l0 nbr hbr hne
    by_cases e4 : b = dm
    · subst e4; exact l0 ndm hdm hne
    by_cases e5 : b = qu
    · subst e5; exact l0 nqu hqu hne
    by_cases e6 : b ∈ ts
    · obtain ⟨i, hi, e⟩ := List.mem_iff_getElem.mp e6
      obtain ⟨p, _, hp⟩ := hT.get (i := i) (t := b) (by rw [List.getElem?_eq_getElem hi, e])
      exact l0 (not b e6) hp hne
    have hb' : L.ρ b ≠ .no := by
      intro q
      apply hb
      show (if b = w then Role.inn 1 (A.n + 1) else if b = nd then .inn 3 (A.n + 1) else if b = br then .inn 4 (A.n + 1) else if b = dm then .inn 5 (A.n + 1) else if b = qu then .inn 6 (A.n + 1) else if b ∈ ts then .tp else L.ρ b) = .no
      rw [if_neg e1, if_neg e2, if_neg e3, if_neg e4, if_neg e5, if_neg e6, q]
    refine Classical.byCases (p := ∃ j, L.ρ b = .inn 4 j) (fun q => t4 b q hne) fun q => ?_
    cases e : H b with
    | none => exact h.tr b hb' e
    | some o => rw [k b o (fun j hj => q ⟨j, hj⟩) e] at hne; cases hne
  · exact k L.m _ (by rw [h.rm]; exact fun _ e => nomatch e) h.m
  · obtain ⟨xs, e, l⟩ := h.base
    exact ⟨xs, k (L.l 0) _ (by rw [h.rl 0 (by omega)]; exact fun _ e => nomatch e) e, l⟩
  · have q := h.o i (by rcases hi with rfl | rfl | rfl | rfl | rfl <;> omega) (five_le hi)
    rw [show (L.grow A.n w nd br dm qu ts).l i = L.l i from rfl, k _ _ (by rw [h.rl i (five_le hi)]; exact fun _ e => nomatch e) q]
    have e2 : i ≠ 2 := by rcases hi with rfl | rfl | rfl | rfl | rfl <;> omega
    congr 2
    show curr L A x i = (List.range (A.n + 1 + 1)).map fun j => V.ref ((L.grow A.n w nd br dm qu ts).a i j)
    rw [List.range_succ, List.map_append, List.map_singleton, anew i]
    unfold curr
    rw [if_neg e2]
    congr 1
    · refine List.map_congr_left fun j hj => ?_
      rw [aold i j (by have := List.mem_range.mp hj; omega)]
    · rcases hi with rfl | rfl | rfl | rfl | rfl
      · rw [x1]; rfl
      · rw [x3]; rfl
      · rw [x4]; rfl
      · rw [x5]; rfl
      · rw [x6]; rfl
  · have q := h.o 2 (by omega) (by omega)
    rw [show (L.grow A.n w nd br dm qu ts).l 2 = L.l 2 from rfl, k _ _ (by rw [h.rl 2 (by omega)]; exact fun _ e => nomatch e) q]
    congr 2
    show curr L A x 2 = (List.range (A.n + 1 + 1)).map fun j => V.int ((push A wr sz N Bf dem qua).sz j)
    rw [List.range_succ, List.map_append, List.map_singleton, push_sz]
    unfold curr
    rw [if_pos rfl, x2]
    congr 1
    refine List.map_congr_left fun j hj => ?_
    rw [push_agree.sz j (by have := List.mem_range.mp hj; omega)]
  · rcases kk hj with hj | hj
    · obtain ⟨us, e, t, r⟩ := h.i1 j hj
      rw [aold 1 j hj, push_agree.ws j hj]
      refine ⟨us, k _ _ (by rw [h.ra 1 j five1 hj]; exact fun _ e => by injection e with e1 e2; omega) e, t.keep fun b hb o q => k b o (by rw [r b hb]; exact fun _ e => nomatch e) q, fun u hu => (old u (by rw [r u hu]; exact fun e => nomatch e)).trans (r u hu)⟩
    · subst hj
      rw [anew 1, if_pos rfl, push_ws]
      refine ⟨ts, kn _ _ nw hw, hT.keep fun t ht o q => kn t o (not t ht) q, fun t ht => ?_⟩
      obtain ⟨a1, a2, a3, a4, a5⟩ := tsne t ht
      show (if t = w then Role.inn 1 (A.n + 1) else if t = nd then .inn 3 (A.n + 1) else if t = br then .inn 4 (A.n + 1) else if t = dm then .inn 5 (A.n + 1) else if t = qu then .inn 6 (A.n + 1) else if t ∈ ts then .tp else L.ρ t) = .tp
      rw [if_neg a1, if_neg a2, if_neg a3, if_neg a4, if_neg a5, if_pos ht]
  · show H' _ = some (.lst (nv (asc (A.n + 1) _)))
    rcases kk hj with hj | hj
    · rw [aold 3 j hj, k _ _ (by rw [h.ra 3 j five3 hj]; exact fun _ e => by injection e with e1 e2; omega) (h.i3 j hj)]
      rw [asc_congr (n := A.n + 1) (S := (push A wr sz N Bf dem qua).R j) (T := A.R j) (fun o _ _ => push_agree.R j o hj), asc_more (n := A.n) (m := A.n + 1) (fun o q => lt1 j o q) (by omega)]
    · subst hj
      rw [anew 3, push_R, asc_more (n := A.n) (m := A.n + 1) (fun o q => (ok.n_le G q).2) (by omega)]
      exact kn nd _ nnd hnd
  · show H' _ = some (.lst (nv (asc (A.n + 1) _)))
    rcases kk hj with hj | hj
    · rw [aold 4 j hj, h4 j hj, asc_succ]
      congr 4
      · refine (asc_congr fun o _ ho => ?_).symm
        exact push_agree.B j o hj ho
      · have e : (push A wr sz N Bf dem qua).B j (A.n + 1) = Bf j := by
          show (if j = A.n + 1 then Bf (A.n + 1) else if A.n + 1 = A.n + 1 then Bf j else _) = _
          rw [if_neg (by omega), if_pos rfl]
        rw [e]
    · subst hj
      have e : (push A wr sz N Bf dem qua).B (A.n + 1) = Bf := funext fun o => push_B o
      rw [anew 4, e, asc_more (n := A.n) (m := A.n + 1) (fun o q => ((ok.hB o).mp q).1.2) (by omega)]
      exact kn br _ nbr hbr
  · rcases kk hj with hj | hj
    · rw [aold 5 j hj, push_agree.dem j hj]
      exact k _ _ (by rw [h.ra 5 j five5 hj]; exact fun _ e => by injection e with e1 e2; omega) (h.i5 j hj)
    · subst hj
      rw [anew 5, push_dem]
      exact kn _ _ ndm (by simpa using hdm)
  · rcases kk hj with hj | hj
    · rw [aold 6 j hj, push_agree.qua j hj]
      exact k _ _ (by rw [h.ra 6 j five6 hj]; exact fun _ e => by injection e with e1 e2; omega) (h.i6 j hj)
    · subst hj
      rw [anew 6, push_qua]
      exact kn _ _ nqu (by simpa using hqu)
  · show A.n + 1 ≤ 30
    omega
end K27
set_option Elab.async false
set_option linter.all false
set_option maxRecDepth 100000
set_option maxHeartbeats 4000000
/-! K27Grow: the end of the defs that let the model grow. -/
namespace K27
open PySem PySem.Spec PyProof.Rows L2 Evl
local macro_rules | `(tactic| walk_at "rd") => `(tactic| repeat (first | refine ⟨_, _, rfl, rfl, ?_⟩ | refine ⟨_, rfl, ?_⟩ | refine ⟨_, _, _, _, rfl, rfl, SqL.of (by assumption), rfl, ?_⟩ | refine Or.inl ⟨_, rfl, ?_⟩ | refine ⟨Or.inl (by decide), ?_⟩ | refine ⟨(by decide : _ ≠ _), ?_⟩))
section
variable {K : PySem.W.Frag} {σ : L2.St} {H H' : Hp} {te2 te6 : TE} {s : Addr} {L : Lay} {A : Ab} {x : Nat → Option V} {D : Ends} {tz : TS}
abbrev appR (K : PySem.W.Frag) (im i : Nat) (te : TE) : TS := tDrop (tBM K "list" rAppend (tOp (rIxL K) (tVar im) (tC (.int (i : Int)))) (tCons te tNil))
abbrev Vs (L : Lay) (s : Addr) : Addr → Prop := fun b => b = s ∨ ∃ i, L.ρ b = .ls i
theorem q_six {Pq : Addr → Prop} {im iw iN ib id_ : Nat} {w nd br dm : Addr} {qua : List Nat} (h : Md H L A) (src : Src H s) (ns : L.ρ s = .no) (hm : σ[im]? = some (some (.ref L.m)))
    (s1 : σ[iw]? = some (some (.ref w))) (s3 : σ[iN]? = some (some (.ref nd))) (s4 : σ[ib]? = some (some (.ref br))) (s5 : σ[id_]? = some (some (.ref dm)))
    (h2 : ∀ H1, Sm (Vs L s) H H1 → Src H1 s → ∀ Q : VK, (∀ i H2, 0 ≤ i → Src H2 s → Sm (· = s) H1 H2 → Q (.int i) H2) → te2 σ H1 Q)
    (h6 : ∀ H1, Sm (Vs L s) H H1 → (∀ b, L.ρ b ≠ .no → H1 b ≠ none) → Src H1 s → ∀ Q : VK, (∀ q H2, H2 q = some (.lst (nv qua)) → Pq q → L.ρ q = .no → q ≠ s → Src H2 s → Sm (· = s) H1 H2 → Q (.ref q) H2) → te6 σ H1 Q)
    (k : ∀ sz qu H2 x, 0 ≤ sz → Mp H2 L A x → x 1 = some (.ref w) → x 2 = some (.int sz) → x 3 = some (.ref nd) → x 4 = some (.ref br) → x 5 = some (.ref dm) → x 6 = some (.ref qu) → Sm (Vs L s) H H2 → Src H2 s → H2 qu = some (.lst (nv qua)) → Pq qu → L.ρ qu = .no → tz D σ H2) :
    tSeq (appR K im 1 (tVar iw)) (tSeq (appR K im 2 te2) (tSeq (appR K im 3 (tVar iN)) (tSeq (appR K im 4 (tVar ib)) (tSeq (appR K im 5 (tVar id_)) (tSeq (appR K im 6 te6) tz))))) D σ H := by
  have sn : ∀ i, i ≤ 6 → s ≠ L.l i := fun i hi e => by rw [e, h.rl i hi] at ns; cases ns
  have srcU : ∀ {H1 : Hp} {i : Nat} {o : HO}, i ≤ 6 → Src H1 s → Src (upd H1 (L.l i) o) s := fun hi ⟨c0, c1, c2, hc⟩ => ⟨c0, c1, c2, by rw [upd_ne (sn _ hi)]; exact hc⟩
  have vs : ∀ {i : Nat}, i ≤ 6 → ∀ b, (b = s ∨ b = L.l i) → Vs L s b := fun hi b hb => by
    rcases hb with rfl | rfl
    · exact .inl rfl
    · exact .inr ⟨_, h.rl _ hi⟩
  have nU : ∀ b, b = s → L.ρ b = .no := fun b e => by rw [e]; exact ns
  have put_ne : ∀ {x : Nat → Option V} {i j : Nat} {v : V}, j ≠ i → put x i v j = x j := fun hne => if_neg hne
  have put_eq : ∀ {x : Nat → Option V} {i : Nat} {v : V}, put x i v i = some v := if_pos rfl
  have evv : ∀ {j : Nat} {v : V} {H0 : Hp}, Src H0 s → σ[j]? = some (some v) → ∀ H1, Ex H0 H1 → ∀ Q : VK, (∀ v' H2, Sm (· = s) H1 H2 → (v' = v ∧ Src H2 s) → Q v' H2) → tVar j σ H1 Q := fun s0 hj H1 e Q q => ⟨_, hj, q _ H1 (Sm.refl _ _) ⟨rfl, s0.ex e⟩⟩
  refine q_mapp (i := 1) h.mp (by omega) (by omega) rfl nU (fun H1 => ev_var hm) (evv src s1) ?_
  rintro v1 H1 - ⟨rfl, z1⟩ m1 p1
  have z1 := srcU (i := 1) (o := .lst (curr L A (fun _ => none) 1 ++ [.ref w])) (by omega) z1
  have m1 := m1.mono (vs (i := 1) (by omega))
  refine q_mapp (i := 2) p1 (by omega) (by omega) (put_ne (by omega)) nU (fun H1 => ev_var hm) (P := fun v H2 => Src H2 s ∧ ∃ sz : Int, v = .int sz ∧ 0 ≤ sz) (fun H2 e2 Q q => h2 H2 (m1.ex e2) (z1.ex e2) Q fun i H3 hi z3 e3 => q _ H3 e3 ⟨z3, i, rfl, hi⟩) ?_
  rintro v2 H2 - ⟨z2, sz, rfl, hsz⟩ m2 p2
  have z2 := srcU (i := 2) (o := .lst (curr L A (put (fun _ => none) 1 (.ref w)) 2 ++ [.int sz])) (by omega) z2
  have m2 := m1.trans (m2.mono (vs (i := 2) (by omega)))
  refine q_mapp (i := 3) p2 (by omega) (by omega) ((put_ne (by omega)).trans (put_ne (by omega))) nU (fun H1 => ev_var hm) (evv z2 s3) ?_
  rintro v3 H3 - ⟨rfl, z3⟩ m3 p3
  have z3 := srcU (i := 3) (o := .lst (curr L A (put (put (fun _ => none) 1 (.ref w)) 2 (.int sz)) 3 ++ [.ref nd])) (by omega) z3
  have m3 := m2.trans (m3.mono (vs (i := 3) (by omega)))
  refine q_mapp (i := 4) p3 (by omega) (by omega) ((put_ne (by omega)).trans ((put_ne (by omega)).trans (put_ne (by omega)))) nU (fun H1 => ev_var hm) (evv z3 s4) ?_
  rintro v4 H4 - ⟨rfl, z4⟩ m4 p4
  have z4 := srcU (i := 4) (o := .lst (curr L A (put (put (put (fun _ => none) 1 (.ref w)) 2 (.int sz)) 3 (.ref nd)) 4 ++ [.ref br])) (by omega) z4
  have m4 := m3.trans (m4.mono (vs (i := 4) (by omega)))
  refine q_mapp (i := 5) p4 (by omega) (by omega) ((put_ne (by omega)).trans ((put_ne (by omega)).trans ((put_ne (by omega)).trans (put_ne (by omega))))) nU (fun H1 => ev_var hm) (evv z4 s5) ?_
  rintro v5 H5 - ⟨rfl, z5⟩ m5 p5
  have z5 := srcU (i := 5) (o := .lst (curr L A (put (put (put (put (fun _ => none) 1 (.ref w)) 2 (.int sz)) 3 (.ref nd)) 4 (.ref br)) 5 ++ [.ref dm])) (by omega) z5
  have m5 := m4.trans (m5.mono (vs (i := 5) (by omega)))
  refine q_mapp (i := 6) p5 (by omega) (by omega) ((put_ne (by omega)).trans ((put_ne (by omega)).trans ((put_ne (by omega)).trans ((put_ne (by omega)).trans (put_ne (by omega)))))) nU (fun H1 => ev_var hm)
    (P := fun v H2 => Src H2 s ∧ ∃ qu, v = .ref qu ∧ H2 qu = some (.lst (nv qua)) ∧ Pq qu ∧ L.ρ qu = .no) (fun H6 e6 Q q => h6 H6 (m5.ex e6) (tr_sm p5.tr (Sm.of (U := fun _ => False) e6) fun _ u => u.elim) (z5.ex e6) Q fun qu H7 hq pq nq _ z7 e7 => q _ H7 e7 ⟨z7, qu, rfl, hq, pq, nq⟩) ?_
  rintro v6 H6 - ⟨z6, qu, rfl, hq, pq, nq⟩ m6 p6
  have z6 := srcU (i := 6) (o := .lst (curr L A (put (put (put (put (put (fun _ => none) 1 (.ref w)) 2 (.int sz)) 3 (.ref nd)) 4 (.ref br)) 5 (.ref dm)) 6 ++ [.ref qu])) (by omega) z6
  have m6 := m5.trans (m6.mono (vs (i := 6) (by omega)))
  refine k sz qu _ _ hsz p6 rfl rfl rfl rfl rfl rfl m6 z6 ?_ pq nq
  rw [upd_ne (fun e => by rw [e, h.rl 6 (by omega)] at nq; cases nq)]
  exact hq
abbrev loopR (K : PySem.W.Frag) (im ib io inum : Nat) : TS := tFor (iList K (tVar ib)) (gName io) (tDrop (tBM K "list" rAppend (tOp (rIxL K) (tOp (rIxL K) (tVar im) (tC (.int 4))) (tVar io)) (tCons (tVar inum) tNil)))
def Slo (σ σ' : L2.St) (io : Nat) : Prop := σ' = σ ∨ ∃ v, σ' = σ.set io (some v)
theorem Slo.get {σ' : L2.St} {io j : Nat} {v : V} (h : Slo σ σ' io) (hj : σ[j]? = some (some v)) (ne : io ≠ j) : σ'[j]? = some (some v) := by
  rcases h with rfl | ⟨u, rfl⟩
  · exact hj
  · rw [List.getElem?_set_ne ne]; exact hj
theorem s_bars {im ib io inum : Nat} {br : Addr} {Bf : Nat → Bool} (h : Mp H L A x) (x4 : (x 4).isSome = true) (i4 : ∀ k, k ≤ A.n → H (L.a 4 k) = some (.lst (nv (asc A.n (A.B k))))) (hb : H br = some (.lst (nv (asc A.n Bf)))) (nb : L.ρ br = .no) (hBf : ∀ o, Bf o = true → 1 ≤ o ∧ o ≤ A.n)
    (sm : σ[im]? = some (some (.ref L.m))) (sb : σ[ib]? = some (some (.ref br))) (su : σ[inum]? = some (some (.int ((A.n + 1 : Nat) : Int)))) (hio : io < σ.length) (nm : io ≠ im) (nbb : io ≠ ib) (nu : io ≠ inum)
    (k : ∀ σ' H', Slo σ σ' io → Sm (fun b => ∃ k, L.ρ b = .inn 4 k) H H' → (∀ k, k ≤ A.n → H' (L.a 4 k) = some (.lst (nv (asc A.n (A.B k) ++ if Bf k = true then [A.n + 1] else [])))) → (∀ b, H b ≠ none → H' b ≠ none) → D.nx σ' H') : loopR K im ib io inum D σ H := by
  have hnm := h.nmax
  refine s_forLn (ev_var sb) (SqL.of hb) (fun i σ' H' => Slo σ σ' io ∧ Sm (fun b => ∃ k, L.ρ b = .inn 4 k) H H' ∧ (∀ k, k ≤ A.n → H' (L.a 4 k) = some (.lst (nv (asc A.n (A.B k) ++ if k ∈ (asc A.n Bf).take i then [A.n + 1] else [])))) ∧ (∀ b, H b ≠ none → H' b ≠ none))
    (fun H1 e1 => ⟨.inl rfl, Sm.of e1, fun j hj => by rw [List.take_zero, if_neg (by simp), List.append_nil]; exact e1 _ _ (i4 j hj), fun b hb e => by
      cases q : H b with
      | none => exact hb q
      | some o => rw [e1 b o q] at e; cases e⟩)
    (fun i σ' H' _ p => SqL.of (p.2.1 _ _ hb fun ⟨j, q⟩ => by rw [nb] at q; cases q)) (fun i y σ' H' hy p => ?_) (fun σ' H' p => ?_)
  · obtain ⟨p1, p2, p3, p4⟩ := p
    obtain ⟨o, ho, rfl⟩ := nv_get hy
    have hi : i < (asc A.n Bf).length := (List.getElem?_eq_some_iff.mp ho).1
    have hom := mem_asc.mp (List.mem_of_getElem? ho)
    have p5 : Slo σ (σ'.set io (some (.int (o : Int)))) io := by
      rcases p1 with rfl | ⟨u, rfl⟩
      · exact .inr ⟨_, rfl⟩
      · exact .inr ⟨.int (o : Int), by rw [List.set_set]⟩
    have so : (σ'.set io (some (.int (o : Int))))[io]? = some (some (.int (o : Int))) := by
      rw [List.getElem?_set_self]
      rcases p1 with rfl | ⟨u, rfl⟩
      · exact hio
      · rw [List.length_set]; exact hio
    have ht : ∀ b, L.ρ b ≠ .no → H' b ≠ none := fun b hb => p4 b (h.tr b hb)
    have h' := h.sm p2 (fun b q => .inr q) ht
    have nodup : (asc A.n Bf).Nodup := (asc_sorted A.n Bf).imp fun h => by omega
    have hnt : o ∉ (asc A.n Bf).take i := fun hin => by
      obtain ⟨j, hj, e⟩ := List.mem_iff_getElem.mp hin
      have hj2 : j < i := by rw [List.length_take] at hj; omega
      rw [List.getElem_take] at e
      have hg : (asc A.n Bf)[i] = o := (List.getElem?_eq_some_iff.mp ho).2
      have := List.pairwise_iff_getElem.mp (asc_sorted A.n Bf) j i (by omega) hi hj2
      omega
    have cur := p3 o hom.1.2
    rw [if_neg hnt, List.append_nil] at cur
    refine s_app (xs := nv (asc A.n (A.B o))) cur (ev_op (h'.evl (i := 4) (ev_var (p5.get sm nm)) (by omega)) (ev_var so) (rv_ixL (SqL.of (h'.o 4 (by omega) (by omega))) ?_)) (ev_var (p5.get su nu)) ?_ fun H2 e2 => ⟨p5, ?_, fun j hj => ?_, fun b hb => ?_⟩
    · refine atI_nat ?_
      show (rowsOf L A.n 4 ++ (x 4).toList)[o]? = _
      rw [List.getElem?_append_left (by simp; omega), range_get _ (by omega)]
    · rw [nv_len]
      have := asc_len A.n (A.B o)
      omega
    · exact Sm.upd (p2.ex e2) (.inl ⟨o, h.ra 4 o five4 hom.1.2⟩)
    · have hg : (asc A.n Bf).take (i + 1) = (asc A.n Bf).take i ++ [o] := by rw [List.take_succ, ho]; rfl
      by_cases ej : j = o
      · subst ej
        rw [upd_same, hg, if_pos (by simp)]
        simp [nv]
      · rw [upd_ne]
        · rw [e2 _ _ (p3 j hj), hg]
          simp [ej]
        · intro e
          have a := h.ra 4 j five4 hj
          have b := h.ra 4 o five4 hom.1.2
          rw [e, b] at a
          injection a with a1 a2
          exact ej a2.symm
    · unfold upd
      split
      · exact fun e => nomatch e
      · intro e
        cases q : H' b with
        | none => exact p4 b hb q
        | some o => rw [e2 b o q] at e; cases e
  · obtain ⟨p1, p2, p3, p4⟩ := p
    refine k σ' H' p1 p2 (fun j hj => ?_) p4
    rw [p3 j hj, nv_len, List.take_length]
    congr 4
    cases e : Bf j with
    | true => rw [if_pos (mem_asc.mpr ⟨hBf j e, e⟩), if_pos rfl]
    | false => rw [if_neg (fun q => by have := (mem_asc.mp q).2; rw [e] at this; cases this), if_neg Bool.false_ne_true]
/-- the six appends and the loop over the bars -/
theorem grow_end {Pq : Addr → Prop} {im iw iN ib id_ io inum : Nat} {w nd br dm : Addr} {ts : List Addr} {wr : List (Int × Int)} {N Bf : Nat → Bool} {dem qua : List Nat} (h : Md H L A) (G : Good A) (ok : ∀ sz, 0 ≤ sz → NewOk A wr sz N Bf dem qua) (hn : A.n ≤ 29) (src : Src H s) (ns : L.ρ s = .no)
    (sm : σ[im]? = some (some (.ref L.m))) (s1 : σ[iw]? = some (some (.ref w))) (s3 : σ[iN]? = some (some (.ref nd))) (s4 : σ[ib]? = some (some (.ref br))) (s5 : σ[id_]? = some (some (.ref dm)))
    (su : σ[inum]? = some (some (.int ((A.n + 1 : Nat) : Int)))) (hio : io < σ.length) (nm : io ≠ im) (nbb : io ≠ ib) (nu : io ≠ inum)
    (di : [w, nd, br, dm].Nodup) (dq : ∀ q, Pq q → q ∉ [w, nd, br, dm]) (no : ∀ b ∈ [w, nd, br, dm], L.ρ b = .no ∧ b ≠ s) (not : ∀ t ∈ ts, L.ρ t = .no ∧ t ≠ s)
    (hw : H w = some (.lst (ts.map V.ref))) (hT : Tups H ts wr) (hnd : H nd = some (.lst (nv (asc A.n N)))) (hbr : H br = some (.lst (nv (asc A.n Bf)))) (hdm : H dm = some (.lst (nv dem)))
    (h2 : ∀ H1, Sm (Vs L s) H H1 → Src H1 s → ∀ Q : VK, (∀ i H2, 0 ≤ i → Src H2 s → Sm (· = s) H1 H2 → Q (.int i) H2) → te2 σ H1 Q)
    (h6 : ∀ H1, Sm (Vs L s) H H1 → (∀ b, L.ρ b ≠ .no → H1 b ≠ none) → Src H1 s → ∀ Q : VK, (∀ q H2, H2 q = some (.lst (nv qua)) → Pq q → L.ρ q = .no → q ≠ s → Src H2 s → Sm (· = s) H1 H2 → Q (.ref q) H2) → te6 σ H1 Q)
    (k : ∀ sz qu σ' H', 0 ≤ sz → Slo σ σ' io → Md H' (L.grow A.n w nd br dm qu ts) (push A wr sz N Bf dem qua) → Pq qu → Src H' s → Sm (fun b => b = s ∨ L.ρ b ≠ .no) H H' → D.nx σ' H') :
    tSeq (appR K im 1 (tVar iw)) (tSeq (appR K im 2 te2) (tSeq (appR K im 3 (tVar iN)) (tSeq (appR K im 4 (tVar ib)) (tSeq (appR K im 5 (tVar id_)) (tSeq (appR K im 6 te6) (loopR K im ib io inum)))))) D σ H := by
  refine q_six (Pq := Pq) (qua := qua) (s := s) (w := w) (nd := nd) (br := br) (dm := dm) h src ns sm s1 s3 s4 s5 h2 h6 fun sz qu H2 x hsz mp x1 x2 x3 x4 x5 x6 m2 src2 hqu pq nq => ?_
  have keep : ∀ {b : Addr} {o : HO}, L.ρ b = .no → b ≠ s → H b = some o → H2 b = some o := fun hb hs e => m2 _ _ e fun u => by
    rcases u with u | ⟨i, u⟩
    · exact hs u
    · rw [hb] at u; cases u
  have k2 : ∀ {b : Addr} {o : HO}, b ∈ [w, nd, br, dm] → H b = some o → H2 b = some o := fun hb e => keep (no _ hb).1 (no _ hb).2 e
  have ok := ok sz hsz
  have hBf : ∀ o, Bf o = true → 1 ≤ o ∧ o ≤ A.n := fun o q => ((ok.hB o).mp q).1
  refine s_bars (Bf := Bf) mp (by rw [x4]; rfl) (fun j hj => ?_) (k2 (by simp) hbr) (no br (by simp)).1 hBf sm s4 su hio nm nbb nu fun σ' H' q1 q2 q3 q4 => ?_
  · have a := h.ra 4 j five4 hj
    exact m2 _ _ (h.i4 j hj) fun u => by
      rcases u with u | ⟨i, u⟩
      · rw [u, ns] at a; cases a
      · rw [u] at a; cases a
  · have hT2 : Tups H2 ts wr := hT.keep fun t ht o q => keep (not t ht).1 (not t ht).2 q
    refine k sz qu σ' H' hsz q1 (Md.grown G ok hn mp x1 x2 x3 x4 x5 x6 ?_ ?_ (fun t ht => (not t ht).1) (k2 (by simp) hw) hT2 (k2 (by simp) hnd) (k2 (by simp) hbr) (k2 (by simp) hdm) hqu q2 q3 fun b ⟨j, hb⟩ => q4 b (mp.tr b (by rw [hb]; exact fun e => nomatch e))) pq ?_ ?_
    · have dq' := dq qu pq
      simp only [List.nodup_cons, List.mem_cons, List.mem_nil_iff, or_false, not_or, List.not_mem_nil] at di dq' ⊢
      obtain ⟨⟨a1, a2, a3⟩, ⟨a4, a5⟩, a6, _⟩ := di
      obtain ⟨b1, b2, b3, b4⟩ := dq'
      exact ⟨⟨a1, a2, a3, Ne.symm b1⟩, ⟨a4, a5, Ne.symm b2⟩, ⟨a6, Ne.symm b3⟩, Ne.symm b4, not_false, .nil⟩
    · intro b hb
      simp only [List.mem_cons, List.mem_nil_iff, or_false] at hb
      rcases hb with rfl | rfl | rfl | rfl | rfl
      · exact (no _ (by simp)).1
      · exact (no _ (by simp)).1
      · exact (no _ (by simp)).1
      · exact (no _ (by simp)).1
      · exact nq
    · exact src2.sm q2 fun ⟨j, hj⟩ => by rw [ns] at hj; cases hj
    · refine (m2.mono fun b hb => ?_).trans (q2.mono fun b hb => ?_)
      · rcases hb with hb | ⟨i, hb⟩
        · exact .inl hb
        · exact .inr (by rw [hb]; exact fun e => nomatch e)
      · obtain ⟨j, hj⟩ := hb
        exact .inr (by rw [hj]; exact fun e => nomatch e)
end
end K27
set_option Elab.async false
set_option linter.all false
set_option maxRecDepth 100000
set_option maxHeartbeats 4000000
/-! K27W6: the defs that let the model grow. -/
namespace K27
open PySem PySem.Spec PyProof.Rows L2 Evl
local macro_rules | `(tactic| walk_at "rd") => `(tactic| repeat (first | refine ⟨_, _, rfl, rfl, ?_⟩ | refine ⟨_, rfl, ?_⟩ | refine ⟨_, _, _, _, rfl, rfl, SqL.of (by assumption), rfl, ?_⟩ | refine Or.inl ⟨_, rfl, ?_⟩ | refine ⟨Or.inl (by decide), ?_⟩ | refine ⟨(by decide : _ ≠ _), ?_⟩))
theorem hitB_iff {A : Ab} (G : Good A) {wr : List (Int × Int)} {N : Nat → Bool} {qua : List Nat} {o : Nat} (hN : ∀ x, N x = true → 1 ≤ x ∧ x ≤ A.n) (ho : 1 ≤ o ∧ o ≤ A.n) : hitB A wr (asc A.n N) qua o = true ↔ HitP A wr N qua o := by
  unfold hitB HitP Shares
  rw [Bool.or_eq_true, Bool.or_eq_true, Bool.and_eq_true, decide_eq_true_iff, List.any_eq_true, List.any_eq_true, Bool.not_eq_true', decide_eq_false_iff_not]
  constructor
  · rintro (h | ⟨x, hx, hb⟩ | ⟨⟨p, hp, hq⟩, hn⟩)
    · exact .inl h
    · exact .inr (.inl ⟨x, (mem_asc.mp hx).2, hb⟩)
    · refine .inr (.inr ⟨⟨p, hp, of_decide_eq_true hq⟩, ?_⟩)
      cases e : N o with
      | false => rfl
      | true => exact absurd (mem_asc.mpr ⟨ho, e⟩) hn
  · rintro (h | ⟨x, hx, hb⟩ | ⟨⟨p, hp, hq⟩, hn⟩)
    · exact .inl h
    · exact .inr (.inl ⟨x, mem_asc.mpr ⟨hN x hx, hx⟩, hb⟩)
    · exact .inr (.inr ⟨⟨p, hp, decide_eq_true hq⟩, fun q => by rw [(mem_asc.mp q).2] at hn; cases hn⟩)
theorem barB_iff {A : Ab} (G : Good A) {wr : List (Int × Int)} {N : Nat → Bool} {qua : List Nat} {o : Nat} (hN : ∀ x, N x = true → 1 ≤ x ∧ x ≤ A.n) (ho : 1 ≤ o ∧ o ≤ A.n) : barB A wr (asc A.n N) qua o = true ↔ BarP A wr N qua o := by
  unfold barB BarP
  rw [Bool.or_eq_true, List.any_eq_true, hitB_iff G hN ho]
  constructor
  · rintro (h | ⟨q, hq, h⟩)
    · exact .inl h
    · have a := mem_asc.mp hq
      exact .inr ⟨q, a.2, (hitB_iff G hN a.1).mp h⟩
  · rintro (h | ⟨q, hq, h⟩)
    · exact .inl h
    · have a := G.r_lt o q hq
      have a2 : 1 ≤ q ∧ q ≤ A.n := ⟨a.1, by omega⟩
      exact .inr ⟨q, mem_asc.mpr ⟨a2, hq⟩, (hitB_iff G hN a2).mpr h⟩
def barF (A : Ab) (wr : List (Int × Int)) (N : Nat → Bool) (qua : List Nat) (o : Nat) : Bool := decide (1 ≤ o ∧ o ≤ A.n) && barB A wr (asc A.n N) qua o
theorem barF_asc (A : Ab) (wr : List (Int × Int)) (N : Nat → Bool) (qua : List Nat) : asc A.n (barF A wr N qua) = asc A.n (barB A wr (asc A.n N) qua) := asc_congr fun o h1 h2 => by
  unfold barF
  rw [decide_eq_true ⟨h1, h2⟩, Bool.true_and]
theorem need_rng {A : Ab} (G : Good A) {dem : List Nat} (hd : ∀ d ∈ dem, 1 ≤ d ∧ d ≤ A.n) {o : Nat} (h : needB A dem o = true) : 1 ≤ o ∧ o ≤ A.n := by
  rcases needB_iff.mp h with h | ⟨d, h, hr⟩
  · exact hd o h
  · have a := G.r_lt d o hr
    have b := hd d h
    omega
theorem new_ok {A : Ab} (G : Good A) {wr : List (Int × Int)} {sz : Int} {dem qua : List Nat} (hd : ∀ d ∈ dem, 1 ≤ d ∧ d ≤ A.n) (hq : ∀ d ∈ qua, 1 ≤ d ∧ d ≤ A.n) (dl : dem.length ≤ 100) (ql : qua.length ≤ 100) (W : Wok A.cells wr) (hs : 0 ≤ sz)
    (disj : ∀ o, needB A dem o = true → barF A wr (needB A dem) qua o = false) : NewOk A wr sz (needB A dem) (barF A wr (needB A dem) qua) dem qua where
  hN := fun o => needB_iff
  hB := fun o => by
    unfold barF
    rw [Bool.and_eq_true, decide_eq_true_iff]
    constructor
    · rintro ⟨h1, h2⟩
      exact ⟨h1, (barB_iff G (fun x hx => need_rng G hd hx) h1).mp h2⟩
    · rintro ⟨h1, h2⟩
      exact ⟨h1, (barB_iff G (fun x hx => need_rng G hd hx) h1).mpr h2⟩
  d_le := hd
  q_le := hq
  dl := dl
  ql := ql
  disj := disj
  w := W
  sz := hs
section
variable {w : World} {K : PySem.W.Frag} {mg : Str → Option Value} {base : Heap}
theorem etd_any {s : Addr} {t : TT} {σ : L2.St} {H : Hp} (h : EtD s t σ H (fun _ => True)) : EtD s t σ H (fun b => b = true → True) := fun H1 e sr Q q => h H1 e sr Q fun b H2 _ => q b H2 (fun _ => trivial)
theorem q_do {te : TE} {i : Nat} {tz : TS} {D : Ends} {σ : L2.St} {H : Hp} (h : te σ H (fun v H1 => tz D (σ.set i (some v)) H1)) : tSeq (tAsg te (gName i)) tz D σ H := h
theorem q_last {te : TE} {i : Nat} {D : Ends} {σ : L2.St} {H : Hp} (h : te σ H (fun v H1 => D.nx (σ.set i (some v)) H1)) : tAsg te (gName i) D σ H := h
theorem Sm.monoL {U : Addr → Prop} {s : Addr} {H H1 H2 : Hp} (a : Sm (· = s) H H1) (b : Sm (fun b => b = s ∨ U b) H1 H2) : Sm (fun b => b = s ∨ U b) H H2 := (a.mono fun b hb => .inl hb).trans b
theorem grow_new {L : Lay} {n : Nat} {w nd br dm qu : Addr} {ts : List Addr} {H : Hp} {b : Addr} (hb : (L.grow n w nd br dm qu ts).ρ b ≠ .no) (h5 : ∀ b ∈ [w, nd, br, dm, qu], H b = none) (ht : ∀ t ∈ ts, H t = none) : L.ρ b ≠ .no ∨ H b = none := by
  by_cases e1 : b = w
  · exact .inr (h5 b (by simp [e1]))
  by_cases e2 : b = nd
  · exact .inr (h5 b (by simp [e2]))
  by_cases e3 : b = br
  · exact .inr (h5 b (by simp [e3]))
  by_cases e4 : b = dm
  · exact .inr (h5 b (by simp [e4]))
  by_cases e5 : b = qu
  · exact .inr (h5 b (by simp [e5]))
  by_cases e6 : b ∈ ts
  · exact .inr (ht b e6)
  left
  intro q
  apply hb
  show (if b = w then Role.inn 1 (n + 1) else if b = nd then .inn 3 (n + 1) else if b = br then .inn 4 (n + 1) else if b = dm then .inn 5 (n + 1) else if b = qu then .inn 6 (n + 1) else if b ∈ ts then .tp else L.ρ b) = .no
  rw [if_neg e1, if_neg e2, if_neg e3, if_neg e4, if_neg e5, if_neg e6, q]
theorem sc_l_grow : FnScope ["_law_source_here", "_law_model_here", "_law_cells", "_law_number", "_law_writes_here", "_law_other", "_law_demands", "_law_quarrels", "_law_needs_here", "_law_bars_here", "_law_extent"] ["_law_source_here", "_law_model_here", "_law_cells"] (defScope s_l_grow) := ⟨rfl, rfl, rfl, by decide +kernel, rfl, by decide +kernel, by decide +kernel⟩
/-- what a def that adds a patch leaves -/
def RetG (s : Addr) (L : Lay) (A : Ab) (H : Hp) (Q : VK) : Prop := ∀ A' L' H', Agree A A' → Good A' → L'.m = L.m → Md H' L' A' → (∀ b, L'.ρ b ≠ .no → L.ρ b ≠ .no ∨ H b = none) → Src H' s → Sm (fun b => b = s ∨ L.ρ b ≠ .no) H H' → Q .non H'
def spGrow : Sp := fun vs H Q _ => ∃ (s : Addr) (L : Lay) (A : Ab), vs = [.ref s, .ref L.m, .int (A.cells : Int)] ∧ Src H s ∧ L.ρ s = .no ∧ Md H L A ∧ Good A ∧ A.n ≤ 29 ∧ RetG s L A H Q
theorem ok_l_grow (T : Txt K mg) : OkC PP w K mg base CX0 3 ("_law_grow", none) ["_law_source_here", "_law_model_here", "_law_cells"] spGrow :=
  ok0 T.F_l_grow sc_l_grow (fun _ _ _ _ _ _ us hl => match us, hl with | [_, _, _], _ => rfl) (by rintro vs H Q E ⟨s, L, A, rfl, _⟩; rfl) fun f cdv A0 outer s0 H vs Q E hr h => by
    obtain ⟨s, L, A, rfl, src, ns, hM, hG, hn, k⟩ := h
    refine ⟨_, (pss_cons (ps_set (i := 3) sc_l_grow.nd rfl (Or.inl rfl) (pe_callB (call_lenK (K := K)) (by rfl) T.z_len (by decide +kernel) (pa_cons (pe_ix (ix_listK (K := K)) (pv 1) pe_int (fun _ _ => rfl)) pa_nil))) (pss_cons (ps_set (i := 4) sc_l_grow.nd rfl (Or.inl rfl) (pe_c (ok_l_writes T) (hr.mono (by decide)) T.g_l_writes pass0 (pa_cons (pv 0) (pa_cons (pv 2) pa_nil)))) (pss_cons (ps_setLc (i := 6) (own := [("_law_other", 5)]) (g := gName 5) (by rfl) sc_l_grow.nd rfl rfl (sw_true rfl rfl rfl (by decide +kernel)) (pi_range2 (by rfl) T.z_range (pa_cons pe_int (pa_cons (pv 3) pa_nil))) (blkOk_by (by rfl)) (fun _ _ _ _ _ => pg_name (i := 5) sc_l_grow.nd rfl (by first | exact Or.inl rfl | exact Or.inr rfl)) (fun _ _ _ _ _ => (pts_one (pt_cmpR op_eq (pe_c (ok_l_draw T) (hr.mono (by decide)) T.g_l_draw pass0 (pa_cons (pv 0) (pa_cons pe_int pa_nil))) pe_int (nomark _)))) (fun _ _ _ _ _ => (pv 5))) (pss_cons (ps_setLc (i := 7) (own := [("_law_other", 5)]) (g := gName 5) (by rfl) sc_l_grow.nd rfl rfl (sw_true rfl rfl rfl (by decide +kernel)) (pi_range2 (by rfl) T.z_range (pa_cons pe_int (pa_cons (pv 3) pa_nil))) (blkOk_by (by rfl)) (fun _ _ _ _ _ => pg_name (i := 5) sc_l_grow.nd rfl (by first | exact Or.inl rfl | exact Or.inr rfl)) (fun _ _ _ _ _ => (pts_one (pt_cmpR op_eq (pe_c (ok_l_draw T) (hr.mono (by decide)) T.g_l_draw pass0 (pa_cons (pv 0) (pa_cons pe_int pa_nil))) pe_int (nomark _)))) (fun _ _ _ _ _ => (pv 5))) (pss_cons (ps_set (i := 8) sc_l_grow.nd rfl (Or.inr rfl) (pe_c (ok_l_needs T) (hr.mono (by decide)) T.g_l_needs pass0 (pa_cons (pv 1) (pa_cons (pv 6) pa_nil)))) (pss_cons (ps_set (i := 9) sc_l_grow.nd rfl (Or.inl rfl) (pe_c (ok_l_bars T) (hr.mono (by decide)) T.g_l_bars pass0 (pa_cons (pv 1) (pa_cons (pv 4) (pa_cons (pv 8) (pa_cons (pv 7) pa_nil)))))) (pss_cut (ps_if (pt_cmpR op_gt (pe_callB (call_lenK (K := K)) (by rfl) T.z_len (by decide +kernel) (pa_cons (pe_lc (own := [("_law_other", 5)]) (g := gName 5) (by rfl) sc_l_grow.nd (pi_listK (K := K) (pv 9)) (blkOk_by (by rfl)) (fun _ _ _ _ _ => pg_name (i := 5) sc_l_grow.nd rfl (by first | exact Or.inl rfl | exact Or.inr rfl)) (fun _ _ _ _ _ => (pts_one (pt_cmpR (op_inK (K := K)) (pv 5) (pv 8) (by rfl)))) (fun _ _ _ _ _ => (pv 5))) pa_nil)) pe_int (nomark _)) (pss_cons (ps_set (i := 6) sc_l_grow.nd rfl (Or.inl rfl) (pe_lst pa_nil)) (pss_cons (ps_set (i := 8) sc_l_grow.nd rfl (Or.inr rfl) (pe_lst pa_nil)) (pss_one (ps_set (i := 9) sc_l_grow.nd rfl (Or.inl rfl) (pe_c (ok_l_bars T) (hr.mono (by decide)) T.g_l_bars pass0 (pa_cons (pv 1) (pa_cons (pv 4) (pa_cons (pv 8) (pa_cons (pv 7) pa_nil))))))))) pss_nil) (pss_cons (ps_set (i := 10) sc_l_grow.nd rfl (Or.inl rfl) (pe_c (ok_l_draw T) (hr.mono (by decide)) T.g_l_draw pass0 (pa_cons (pv 0) (pa_cons pe_int pa_nil)))) (pss_cons (ps_expr (pe_appK (K := K) (pe_ix (ix_listK (K := K)) (pv 1) pe_int (fun _ _ => rfl)) (pa_cons (pv 4) pa_nil))) (pss_cons (ps_expr (pe_appK (K := K) (pe_ix (ix_listK (K := K)) (pv 1) pe_int (fun _ _ => rfl)) (pa_cons (pe_ifExp (pt_cmpR op_gt (pv 10) pe_int (nomark _)) (pv 10) (pe_callB (call_lenK (K := K)) (by rfl) T.z_len (by decide +kernel) (pa_cons (pv 4) pa_nil))) pa_nil))) (pss_cons (ps_expr (pe_appK (K := K) (pe_ix (ix_listK (K := K)) (pv 1) pe_int (fun _ _ => rfl)) (pa_cons (pv 8) pa_nil))) (pss_cons (ps_expr (pe_appK (K := K) (pe_ix (ix_listK (K := K)) (pv 1) pe_int (fun _ _ => rfl)) (pa_cons (pv 9) pa_nil))) (pss_cons (ps_expr (pe_appK (K := K) (pe_ix (ix_listK (K := K)) (pv 1) pe_int (fun _ _ => rfl)) (pa_cons (pv 6) pa_nil))) (pss_cons (ps_expr (pe_appK (K := K) (pe_ix (ix_listK (K := K)) (pv 1) pe_int (fun _ _ => rfl)) (pa_cons (pv 7) pa_nil))) (pss_one (ps_for PassesOwn.never rfl (pi_listK (K := K) (pv 9)) (pg_name (i := 5) sc_l_grow.nd rfl (Or.inl rfl)) (pss_one (ps_expr (pe_appK (K := K) (pe_ix (ix_listK (K := K)) (pe_ix (ix_listK (K := K)) (pv 1) pe_int (fun _ _ => rfl)) (pv 5) (fun _ _ => rfl)) (pa_cons (pv 3) pa_nil)))))))))))))))))))), ?_⟩
    have nU : ∀ b, b = s → L.ρ b = .no := fun b e => by rw [e]; exact ns
    have hal : ∀ S, (asc A.n S).length ≤ 1000 := fun S => by
      have := asc_len A.n S
      omega
    refine q_asg (v := .int ((A.n + 1 : Nat) : Int)) (ev_is (ev_len1 hM (ev_var rfl)) (by simp)) fun H1 e1 => ?_
    refine q_do ⟨_, rfl, _, rfl, s, A.cells, rfl, hM.c1, Nat.le_trans hM.c2 (by decide), src.ex e1, ?_⟩
    intro wa ts wr H2 nw nts src2 m2 hw hT hW
    have m02 := Sm.pre e1 m2
    have nw0 : H wa = none := fresh_back e1 nw
    have nts0 : ∀ t ∈ ts, H t = none := fun t ht => fresh_back e1 (nts t ht)
    refine q_do ?_
    refine dc_R2 (s := s) (n := A.n) (fun _ => True) src2 (ea_cons ev_c (ea_cons (ev_var rfl) ea_nil)) (by omega) (by omega) (fun _ => rfl) (fun o h1 h2 => etd_any (ed_draw rfl (fun H1 _ => ev_c) (by decide) (by decide)).eq0) (fun o H1 => ev_var rfl) ?_
    intro dm l H3 ndm hdm hl hls src3 m3
    have m03 := m02.trans m3
    have ndm0 : H dm = none := (m02.free ndm).resolve_left fun e => by subst e; exact src2.some ndm
    refine q_do ?_
    refine dc_R2 (s := s) (n := A.n) (fun _ => True) src3 (ea_cons ev_c (ea_cons (ev_var rfl) ea_nil)) (by omega) (by omega) (fun _ => rfl) (fun o h1 h2 => etd_any (ed_draw rfl (fun H1 _ => ev_c) (by decide) (by decide)).eq0) (fun o H1 => ev_var rfl) ?_
    intro qa qua H4 nqa hqa hq hqs src4 m4
    have m04 := m03.trans m4
    have nqa0 : H qa = none := (m03.free nqa).resolve_left fun e => by subst e; exact src3.some nqa
    have sne : ∀ {p : Addr}, H p = none → p ≠ s := fun hp e => by subst e; exact src.some hp
    have hdm4 := m4 _ _ hdm (sne ndm0)
    have hw4 := m4 _ _ (m3 _ _ hw (sne nw0)) (sne nw0)
    have hT4 : Tups H4 ts wr := hT.keep fun t ht o q => m4 _ _ (m3 _ _ q (sne (nts0 t ht))) (sne (nts0 t ht))
    have hM4 := hM.sm m04 nU
    have hlr : ∀ x ∈ l, 1 ≤ x ∧ x ≤ A.n := fun x hx => ⟨(hl x hx).1, (hl x hx).2.1⟩
    have hqr : ∀ x ∈ qua, 1 ≤ x ∧ x ≤ A.n := fun x hx => ⟨(hq x hx).1, (hq x hx).2.1⟩
    have hll : l.length ≤ A.n := len_le_of hlr hls
    have hql : qua.length ≤ A.n := len_le_of hqr hqs
    have d1 : wa ≠ dm := ne_of_none hw ndm
    have d2 : wa ≠ qa := ne_of_none (m3 _ _ hw (sne nw0)) nqa
    have d3 : dm ≠ qa := ne_of_none hdm nqa
    refine q_do ⟨_, rfl, _, rfl, L, A, dm, l, rfl, hM4, hG, SqL.of hdm4, by omega, hlr, ?_⟩
    intro nd H5 nnd e5 hnd
    have m05 := m04.ex e5
    have nnd0 : H nd = none := (m04.free nnd).resolve_left fun e => by subst e; exact src4.some nnd
    have hM5 := hM4.ex e5
    refine q_do ⟨_, rfl, _, rfl, _, rfl, _, rfl, L, A, wa, nd, qa, ts, wr, asc A.n (needB A l), qua, rfl, hM5, hG, SqL.of (e5 _ _ hw4), hT4.ex e5, hW.len, SqL.of hnd, SqL.of (e5 _ _ hqa), hal _, by omega, fun x hx => (mem_asc.mp hx).1, ?_⟩
    intro br H6 nbr e6 hbr
    have m06 := m05.ex e6
    have nbr0 : H br = none := (m05.free nbr).resolve_left fun e => by subst e; exact (src4.ex e5).some nbr
    rw [← barF_asc] at hbr
    have src6 := (src4.ex e5).ex e6
    have hM6 := hM5.ex e6
    have hw6 := e6 _ _ (e5 _ _ hw4)
    have hT6 := (hT4.ex e5).ex e6
    have hqa6 := e6 _ _ (e5 _ _ hqa)
    have hdm6 := e6 _ _ (e5 _ _ hdm4)
    have hnd6 := e6 _ _ hnd
    have d4 : wa ≠ nd := ne_of_none hw4 nnd
    have d5 : dm ≠ nd := ne_of_none hdm4 nnd
    have d6 : qa ≠ nd := ne_of_none hqa nnd
    have d7 : wa ≠ br := ne_of_none (e5 _ _ hw4) nbr
    have d8 : dm ≠ br := ne_of_none (e5 _ _ hdm4) nbr
    have d9 : qa ≠ br := ne_of_none (e5 _ _ hqa) nbr
    have d10 : nd ≠ br := ne_of_none hnd nbr
    refine q_cut (M := fun σ' H' => ∃ dm nd br dem, σ' = [some (.ref s), some (.ref L.m), some (.int (A.cells : Int)), some (.int ((A.n + 1 : Nat) : Int)), some (.ref wa), none, some (.ref dm), some (.ref qa), some (.ref nd), some (.ref br), none] ∧
      Src H' s ∧ Sm (· = s) H H' ∧ [wa, nd, br, dm].Nodup ∧ qa ∉ [wa, nd, br, dm] ∧ (H nd = none ∧ H br = none ∧ H dm = none) ∧ H' wa = some (.lst (ts.map V.ref)) ∧ Tups H' ts wr ∧ H' qa = some (.lst (nv qua)) ∧ H' dm = some (.lst (nv dem)) ∧ H' nd = some (.lst (nv (asc A.n (needB A dem)))) ∧ H' br = some (.lst (nv (asc A.n (barF A wr (needB A dem) qua)))) ∧
      ∀ sz : Int, 0 ≤ sz → NewOk A wr sz (needB A dem) (barF A wr (needB A dem) qua) dem qua) ?_ ?_
    · refine s_when (b := (asc A.n (barF A wr (needB A l) qua)).any fun o => decide (o ∈ asc A.n (needB A l))) (et_test (et_some (el_filtL (fun o => decide (o ∈ asc A.n (needB A l))) (ev_var rfl) (SqL.of hbr) (by have := hal (barF A wr (needB A l) qua); omega) (fun _ => rfl) (fun x hx => et_test (ev_inN (ev_var rfl) (ev_var rfl) (.inl (SqL.of hnd6)))) (fun o H1 => ev_var rfl)) (by rw [nv_empty, filt_empty]))) (fun hb H7 e7 => ?_) (fun hb H7 e7 => ?_)
      · refine q_asgL (xs := nv []) (el_lst ea_nil (by show 0 ≤ 100000; decide)) fun dm2 H8 ndm2 e8 hdm2 => ?_
        refine q_asgL (xs := nv []) (el_lst ea_nil (by show 0 ≤ 100000; decide)) fun nd2 H9 nnd2 e9 hnd2 => ?_
        have e79 := e8.trans e9
        have e69 := e7.trans e79
        have hM9 := hM6.ex e69
        have en : asc A.n (needB A []) = [] := asc_nil fun o _ _ => rfl
        refine q_last ⟨_, rfl, _, rfl, _, rfl, _, rfl, L, A, wa, nd2, qa, ts, wr, asc A.n (needB A []), qua, rfl, hM9, hG, SqL.of (e69 _ _ hw6), hT6.ex e69, hW.len, SqL.of (by rw [en]; exact hnd2), SqL.of (e69 _ _ hqa6), hal _, by omega, fun x hx => (mem_asc.mp hx).1, ?_⟩
        intro br2 H10 nbr2 e10 hbr2
        rw [← barF_asc] at hbr2
        have fr : ∀ {p : Addr} {Hx : Hp}, Ex H6 Hx → Hx p = none → H p = none := fun ex hp => (m06.free (fresh_back ex hp)).resolve_left fun e => by subst e; exact src6.some (fresh_back ex hp)
        have e610 := e69.trans e10
        refine ⟨dm2, nd2, br2, [], rfl, src6.ex e610, m06.ex e610, ?_, ?_, ⟨fr (e7.trans e8) nnd2, fr e69 nbr2, fr e7 ndm2⟩, e610 _ _ hw6, hT6.ex e610, e610 _ _ hqa6, e10 _ _ (e9 _ _ hdm2), ?_, hbr2, fun sz hsz => new_ok hG (fun d hd => nomatch hd) hqr (by decide) (by omega) hW hsz fun o ho => nomatch (show false = true from ho)⟩
        · have f1 : wa ≠ dm2 := ne_of_none (e7 _ _ hw6) ndm2
          have f2 : wa ≠ nd2 := ne_of_none (e8 _ _ (e7 _ _ hw6)) nnd2
          have f3 : wa ≠ br2 := ne_of_none (e69 _ _ hw6) nbr2
          have f4 : nd2 ≠ br2 := ne_of_none hnd2 nbr2
          have f5 : dm2 ≠ nd2 := ne_of_none hdm2 nnd2
          have f6 : dm2 ≠ br2 := ne_of_none (e9 _ _ hdm2) nbr2
          simp [f1, f2, f3, f4, f5.symm, f6.symm]
        · have f1 : qa ≠ dm2 := ne_of_none (e7 _ _ hqa6) ndm2
          have f2 : qa ≠ nd2 := ne_of_none (e8 _ _ (e7 _ _ hqa6)) nnd2
          have f3 : qa ≠ br2 := ne_of_none (e69 _ _ hqa6) nbr2
          simp [f1, f2, f3, d2.symm]
        · rw [en]
          exact e10 _ _ hnd2
      · refine ⟨dm, nd, br, l, rfl, src6.ex e7, m06.ex e7, ?_, ?_, ⟨nnd0, nbr0, ndm0⟩, e7 _ _ hw6, hT6.ex e7, e7 _ _ hqa6, e7 _ _ hdm6, e7 _ _ hnd6, e7 _ _ hbr, fun sz hsz => new_ok hG hlr hqr (by omega) (by omega) hW hsz fun o ho => ?_⟩
        · simp [d1, d4, d7, d10, d5.symm, d8.symm]
        · simp [d2.symm, d3.symm, d6, d9]
        · cases hbo : barF A wr (needB A l) qua o with
          | false => rfl
          | true =>
            exfalso
            rw [List.any_eq_false] at hb
            have hr := need_rng hG hlr ho
            exact hb o (mem_asc.mpr ⟨hr, hbo⟩) (decide_eq_true (mem_asc.mpr ⟨hr, ho⟩))
    · rintro σ' H7 ⟨dm, nd, br, dem, rfl, src7, m07, di, dq, ⟨nnd0, nbr0, ndm0⟩, hw7, hT7, hqa7, hdm7, hnd7, hbr7, ok⟩
      refine q_do ?_
      refine ed_draw (H := H7) rfl (fun H1 _ => ev_c) (by decide) (by decide) H7 (Sm.refl _ _) src7 _ ?_
      rintro _ H8 ⟨ex, rfl, hex⟩ src8 e8
      have m08 := m07.trans e8
      have hM8 := hM.sm m08 nU
      have no : ∀ {p : Addr}, H p = none → L.ρ p = .no ∧ p ≠ s := fun hp => ⟨hM.no hp, sne hp⟩
      refine grow_end (Pq := fun q => q = qa) (ts := ts) (dem := dem) (qua := qua) (wr := wr) (N := needB A dem) (Bf := barF A wr (needB A dem) qua) hM8 hG ok hn src8 ns rfl rfl rfl rfl rfl rfl (by show 5 < 11; decide) (by decide) (by decide) (by decide) di (fun q hq => by subst hq; exact dq) (fun b hb => ?_) (fun t ht => no (nts0 t ht)) (e8 _ _ hw7 (sne nw0)) (hT7.keep fun t ht o q => e8 _ _ q (sne (nts0 t ht))) (e8 _ _ hnd7 (sne nnd0)) (e8 _ _ hbr7 (sne nbr0)) (e8 _ _ hdm7 (sne ndm0)) ?_ ?_ ?_
      · simp only [List.mem_cons, List.mem_nil_iff, or_false] at hb
        rcases hb with rfl | rfl | rfl | rfl
        · exact no nw0
        · exact no nnd0
        · exact no nbr0
        · exact no ndm0
      · intro H9 m9 src9 Q2 q2
        have hw9 : H9 wa = some (.lst (ts.map V.ref)) := m9 _ _ (e8 _ _ hw7 (sne nw0)) fun u => by
          rcases u with u | ⟨i, u⟩
          · exact sne nw0 u
          · rw [hM.no nw0] at u; cases u
        refine ev_if (b := decide ((0 : Int) < (ex : Int))) (v := .int (if (0 : Int) < (ex : Int) then (ex : Int) else (ts.length : Int))) (et_test (ev_op (ev_var rfl) ev_c rv_I0)) (fun hb => ?_) (fun hb => ?_) H9 (Ex.refl _) _ fun H10 e10 => q2 _ H10 (by split <;> omega) (src9.ex e10) (Sm.of e10)
        · rw [if_pos (of_decide_eq_true hb)]
          exact ev_var rfl
        · rw [if_neg (of_decide_eq_false hb)]
          exact ev_is (ev_len (ev_var rfl) (SqL.of hw9)) (by rw [List.length_map])
      · intro H9 m9 _ src9 Q2 q2
        have hqa9 : H9 qa = some (.lst (nv qua)) := m9 _ _ (e8 _ _ hqa7 (sne nqa0)) fun u => by
          rcases u with u | ⟨i, u⟩
          · exact sne nqa0 u
          · rw [hM.no nqa0] at u; cases u
        exact ⟨_, rfl, q2 qa H9 hqa9 rfl (hM.no nqa0) (sne nqa0) src9 (Sm.refl _ _)⟩
      · intro sz qu σ' H' hsz _ hMd hqu src' m'
        subst hqu
        refine k _ (L.grow A.n wa nd br dm qu ts) H' push_agree (hG.push (ok sz hsz)) rfl hMd (fun b hb => ?_) src' (m08.monoL m')
        exact grow_new hb (by simp [nw0, nnd0, nbr0, ndm0, nqa0]) nts0
theorem etd_and {s : Addr} {t u : TT} {σ : L2.St} {H : Hp} {b : Bool} {G : Prop} (h1 : ∀ H1, Sm (· = s) H H1 → EvT t σ H1 b) (h2 : EtD s u σ H (fun _ => True)) (hg : b = true → G) : EtD s (tAnd t u) σ H (fun c => c = true → G) := fun H1 e src Q q =>
  h1 H1 e H1 (Ex.refl _) _ fun H2 e2 => by
    cases b with
    | true =>
      show u σ H2 Q
      exact h2 H2 (e.ex e2) (src.ex e2) Q fun c H3 _ s3 e3 => q c H3 (fun _ => hg rfl) s3 (Sm.pre e2 e3)
    | false =>
      show Q false H2
      exact q false H2 (fun q => nomatch q) (src.ex e2) (Sm.of e2)
theorem put_disj {A : Ab} (G : Good A) {wr : List (Int × Int)} {dem qua : List Nat} {S : Nat → Bool} (V : IsVer A S) (hd : ∀ d ∈ dem, 1 ≤ d ∧ d ≤ A.n) (hS : ∀ d ∈ dem, S d = true) (hq : ∀ d ∈ qua, needB A dem d = false) {o : Nat} (ho : needB A dem o = true) : barF A wr (needB A dem) qua o = false := by
  have sub : ∀ x, needB A dem x = true → S x = true := fun x hx => by
    rcases needB_iff.mp hx with h | ⟨d, h, hr⟩
    · exact hS x h
    · exact V.clo d x (hS d h) hr
  have tr : ∀ x q, needB A dem x = true → A.R x q = true → needB A dem q = true := fun x q hx hr => by
    refine needB_iff.mpr (.inr ?_)
    rcases needB_iff.mp hx with h | ⟨d, h, hr2⟩
    · exact ⟨x, h, hr⟩
    · exact ⟨d, h, G.r_trans d x q hr2 hr⟩
  have nh : ∀ x, needB A dem x = true → ¬ HitP A wr (needB A dem) qua x := fun x hx h => by
    rcases h with h | ⟨y, hy, hb⟩ | ⟨_, h⟩
    · rw [hq x h] at hx; cases hx
    · have := V.cf y x (sub y hy) (sub x hx)
      rw [this] at hb; cases hb
    · rw [h] at hx; cases hx
  cases e : barF A wr (needB A dem) qua o with
  | false => rfl
  | true =>
    exfalso
    unfold barF at e
    rw [Bool.and_eq_true, decide_eq_true_iff] at e
    rcases (barB_iff G (fun x hx => need_rng G hd hx) e.1).mp e.2 with h | ⟨q, hr, h⟩
    · exact nh o ho h
    · exact nh q (tr o q ho hr) h
theorem sc_l_put : FnScope ["_law_source_here", "_law_model_here", "_law_cells", "_law_demands", "_law_number", "_law_writes_here", "_law_needs_here", "_law_other", "_law_quarrels", "_law_bars_here", "_law_extent"] ["_law_source_here", "_law_model_here", "_law_cells", "_law_demands"] (defScope s_l_put) := ⟨rfl, rfl, rfl, by decide +kernel, rfl, by decide +kernel, by decide +kernel⟩
def RetP (s dm : Addr) (L : Lay) (A : Ab) (H : Hp) (Q : VK) : Prop := ∀ A' L' H', Agree A A' → Good A' → L'.m = L.m → Md H' L' A' → (∀ b, L'.ρ b ≠ .no → L.ρ b ≠ .no ∨ H b = none ∨ b = dm) → Src H' s → Sm (fun b => b = s ∨ L.ρ b ≠ .no) H H' → Q .non H'
def spPut : Sp := fun vs H Q _ => ∃ (s dm : Addr) (L : Lay) (A : Ab) (dem : List Nat) (S : Nat → Bool), vs = [.ref s, .ref L.m, .int (A.cells : Int), .ref dm] ∧ Src H s ∧ L.ρ s = .no ∧ Md H L A ∧ Good A ∧ A.n ≤ 29 ∧ H dm = some (.lst (nv dem)) ∧ L.ρ dm = .no ∧ dm ≠ s ∧ dem.length ≤ 100 ∧ (∀ d ∈ dem, 1 ≤ d ∧ d ≤ A.n) ∧ IsVer A S ∧ (∀ d ∈ dem, S d = true) ∧ RetP s dm L A H Q
theorem ok_l_put (T : Txt K mg) : OkC PP w K mg base CX0 3 ("_law_put", none) ["_law_source_here", "_law_model_here", "_law_cells", "_law_demands"] spPut :=
  ok0 T.F_l_put sc_l_put (fun _ _ _ _ _ _ us hl => match us, hl with | [_, _, _, _], _ => rfl) (by rintro vs H Q E ⟨s, dm, L, A, dem, S, rfl, _⟩; rfl) fun f cdv A0 outer s0 H vs Q E hr h => by
    obtain ⟨s, dm, L, A, dem, S, rfl, src, ns, hM, hG, hn, hdm, ndm, dms, hdl, hdr, hV, hS, k⟩ := h
    refine ⟨_, (pss_cons (ps_set (i := 4) sc_l_put.nd rfl (Or.inl rfl) (pe_callB (call_lenK (K := K)) (by rfl) T.z_len (by decide +kernel) (pa_cons (pe_ix (ix_listK (K := K)) (pv 1) pe_int (fun _ _ => rfl)) pa_nil))) (pss_cons (ps_set (i := 5) sc_l_put.nd rfl (Or.inl rfl) (pe_c (ok_l_writes T) (hr.mono (by decide)) T.g_l_writes pass0 (pa_cons (pv 0) (pa_cons (pv 2) pa_nil)))) (pss_cons (ps_set (i := 6) sc_l_put.nd rfl (Or.inr rfl) (pe_c (ok_l_needs T) (hr.mono (by decide)) T.g_l_needs pass0 (pa_cons (pv 1) (pa_cons (pv 3) pa_nil)))) (pss_cons (ps_setLc (i := 8) (own := [("_law_other", 7)]) (g := gName 7) (by rfl) sc_l_put.nd rfl rfl (sw_true rfl rfl rfl (by decide +kernel)) (pi_range2 (by rfl) T.z_range (pa_cons pe_int (pa_cons (pv 4) pa_nil))) (blkOk_by (by rfl)) (fun _ _ _ _ _ => pg_name (i := 7) sc_l_put.nd rfl (by first | exact Or.inl rfl | exact Or.inr rfl)) (fun _ _ _ _ _ => (pts_one (PW.pt (pw_and (pt_cmpR (op_niK (K := K)) (pv 7) (pv 6) (by rfl)) (pw_and1 (pt_cmpR op_eq (pe_c (ok_l_draw T) (hr.mono (by decide)) T.g_l_draw pass0 (pa_cons (pv 0) (pa_cons pe_int pa_nil))) pe_int (nomark _))))))) (fun _ _ _ _ _ => (pv 7))) (pss_cons (ps_set (i := 9) sc_l_put.nd rfl (Or.inl rfl) (pe_c (ok_l_bars T) (hr.mono (by decide)) T.g_l_bars pass0 (pa_cons (pv 1) (pa_cons (pv 5) (pa_cons (pv 6) (pa_cons (pv 8) pa_nil)))))) (pss_cons (ps_set (i := 10) sc_l_put.nd rfl (Or.inl rfl) (pe_c (ok_l_draw T) (hr.mono (by decide)) T.g_l_draw pass0 (pa_cons (pv 0) (pa_cons pe_int pa_nil)))) (pss_cons (ps_expr (pe_appK (K := K) (pe_ix (ix_listK (K := K)) (pv 1) pe_int (fun _ _ => rfl)) (pa_cons (pv 5) pa_nil))) (pss_cons (ps_expr (pe_appK (K := K) (pe_ix (ix_listK (K := K)) (pv 1) pe_int (fun _ _ => rfl)) (pa_cons (pe_ifExp (pt_cmpR op_gt (pv 10) pe_int (nomark _)) (pv 10) (pe_callB (call_lenK (K := K)) (by rfl) T.z_len (by decide +kernel) (pa_cons (pv 5) pa_nil))) pa_nil))) (pss_cons (ps_expr (pe_appK (K := K) (pe_ix (ix_listK (K := K)) (pv 1) pe_int (fun _ _ => rfl)) (pa_cons (pv 6) pa_nil))) (pss_cons (ps_expr (pe_appK (K := K) (pe_ix (ix_listK (K := K)) (pv 1) pe_int (fun _ _ => rfl)) (pa_cons (pv 9) pa_nil))) (pss_cons (ps_expr (pe_appK (K := K) (pe_ix (ix_listK (K := K)) (pv 1) pe_int (fun _ _ => rfl)) (pa_cons (pv 3) pa_nil))) (pss_cons (ps_expr (pe_appK (K := K) (pe_ix (ix_listK (K := K)) (pv 1) pe_int (fun _ _ => rfl)) (pa_cons (pv 8) pa_nil))) (pss_one (ps_for PassesOwn.never rfl (pi_listK (K := K) (pv 9)) (pg_name (i := 7) sc_l_put.nd rfl (Or.inl rfl)) (pss_one (ps_expr (pe_appK (K := K) (pe_ix (ix_listK (K := K)) (pe_ix (ix_listK (K := K)) (pv 1) pe_int (fun _ _ => rfl)) (pv 7) (fun _ _ => rfl)) (pa_cons (pv 4) pa_nil)))))))))))))))))), ?_⟩
    have nU : ∀ b, b = s → L.ρ b = .no := fun b e => by rw [e]; exact ns
    have hal : ∀ S, (asc A.n S).length ≤ 1000 := fun S => by
      have := asc_len A.n S
      omega
    have sne : ∀ {p : Addr}, H p = none → p ≠ s := fun hp e => by subst e; exact src.some hp
    refine q_asg (v := .int ((A.n + 1 : Nat) : Int)) (ev_is (ev_len1 hM (ev_var rfl)) (by simp)) fun H1 e1 => ?_
    refine q_do ⟨_, rfl, _, rfl, s, A.cells, rfl, hM.c1, Nat.le_trans hM.c2 (by decide), src.ex e1, ?_⟩
    intro wa ts wr H2 nw nts src2 m2 hw hT hW
    have m02 := Sm.pre e1 m2
    have nw0 : H wa = none := fresh_back e1 nw
    have nts0 : ∀ t ∈ ts, H t = none := fun t ht => fresh_back e1 (nts t ht)
    have hdm2 := m02 _ _ hdm dms
    refine q_do ⟨_, rfl, _, rfl, L, A, dm, dem, rfl, hM.sm m02 nU, hG, SqL.of hdm2, by omega, hdr, ?_⟩
    intro nd H3 nnd e3 hnd
    have m03 := m02.ex e3
    have src3 := src2.ex e3
    have nnd0 : H nd = none := (m02.free nnd).resolve_left fun e => by subst e; exact src2.some nnd
    refine q_do ?_
    refine dc_R2 (s := s) (n := A.n) (fun o => needB A dem o = false) src3 (ea_cons ev_c (ea_cons (ev_var rfl) ea_nil)) (by omega) (by omega) (fun _ => rfl) (fun o h1 h2 => etd_and (b := !decide (o ∈ asc A.n (needB A dem))) (fun Hx ex => et_test (ev_niN (ev_var rfl) (ev_var rfl) (.inl (SqL.of (ex _ _ hnd (sne nnd0)))))) (ed_draw rfl (fun H1 _ => ev_c) (by decide) (by decide)).eq0 (fun hb => ?_)) (fun o H1 => ev_var rfl) ?_
    · cases e : needB A dem o with
      | false => rfl
      | true => rw [decide_eq_true (mem_asc.mpr ⟨⟨h1, h2⟩, e⟩)] at hb; cases hb
    intro qa qua H4 nqa hqa hq hqs src4 m4
    have m04 := m03.trans m4
    have nqa0 : H qa = none := (m03.free nqa).resolve_left fun e => by subst e; exact src3.some nqa
    have hqr : ∀ x ∈ qua, 1 ≤ x ∧ x ≤ A.n := fun x hx => ⟨(hq x hx).1, (hq x hx).2.1⟩
    have hql : qua.length ≤ A.n := len_le_of hqr hqs
    have hw4 := m4 _ _ (e3 _ _ hw) (sne nw0)
    have hT4 : Tups H4 ts wr := (hT.ex e3).keep fun t ht o q => m4 _ _ q (sne (nts0 t ht))
    have hnd4 := m4 _ _ hnd (sne nnd0)
    have hdm4 := m04 _ _ hdm dms
    refine q_do ⟨_, rfl, _, rfl, _, rfl, _, rfl, L, A, wa, nd, qa, ts, wr, asc A.n (needB A dem), qua, rfl, hM.sm m04 nU, hG, SqL.of hw4, hT4, hW.len, SqL.of hnd4, SqL.of hqa, hal _, by omega, fun x hx => (mem_asc.mp hx).1, ?_⟩
    intro br H6 nbr e6 hbr
    have m06 := m04.ex e6
    have nbr0 : H br = none := (m04.free nbr).resolve_left fun e => by subst e; exact src4.some nbr
    rw [← barF_asc] at hbr
    have src6 := src4.ex e6
    have d1 : wa ≠ nd := ne_of_none hw nnd
    have d2 : wa ≠ qa := ne_of_none (e3 _ _ hw) nqa
    have d3 : wa ≠ br := ne_of_none hw4 nbr
    have d4 : nd ≠ qa := ne_of_none hnd nqa
    have d5 : nd ≠ br := ne_of_none hnd4 nbr
    have d6 : qa ≠ br := ne_of_none hqa nbr
    have f1 : dm ≠ wa := ne_of_none hdm nw0
    have f2 : dm ≠ nd := ne_of_none hdm nnd0
    have f3 : dm ≠ br := ne_of_none hdm nbr0
    have f4 : dm ≠ qa := ne_of_none hdm nqa0
    refine q_do ?_
    refine ed_draw (H := H6) rfl (fun H1 _ => ev_c) (by decide) (by decide) H6 (Sm.refl _ _) src6 _ ?_
    rintro _ H8 ⟨ex, rfl, hex⟩ src8 e8
    have m08 := m06.trans e8
    have hM8 := hM.sm m08 nU
    have no : ∀ {p : Addr}, H p = none → L.ρ p = .no ∧ p ≠ s := fun hp => ⟨hM.no hp, sne hp⟩
    have ok : ∀ sz : Int, 0 ≤ sz → NewOk A wr sz (needB A dem) (barF A wr (needB A dem) qua) dem qua := fun sz hsz => new_ok hG hdr hqr hdl (by omega) hW hsz fun o ho => put_disj hG hV hdr hS (fun d hd => (hq d hd).2.2) ho
    refine grow_end (Pq := fun q => q = qa) (ts := ts) (dem := dem) (qua := qua) (wr := wr) (N := needB A dem) (Bf := barF A wr (needB A dem) qua) hM8 hG ok hn src8 ns rfl rfl rfl rfl rfl rfl (by show 7 < 11; decide) (by decide) (by decide) (by decide) ?_ (fun q hq => ?_) (fun b hb => ?_) (fun t ht => no (nts0 t ht)) (e8 _ _ (e6 _ _ hw4) (sne nw0)) ((hT4.ex e6).keep fun t ht o q => e8 _ _ q (sne (nts0 t ht))) (e8 _ _ (e6 _ _ hnd4) (sne nnd0)) (e8 _ _ hbr (sne nbr0)) (e8 _ _ (e6 _ _ hdm4) dms) ?_ ?_ ?_
    · simp [d1, d3, d5, f1.symm, f2.symm, f3.symm]
    · subst hq
      simp [d2.symm, d4.symm, d6, f4.symm]
    · simp only [List.mem_cons, List.mem_nil_iff, or_false] at hb
      rcases hb with rfl | rfl | rfl | rfl
      · exact no nw0
      · exact no nnd0
      · exact no nbr0
      · exact ⟨ndm, dms⟩
    · intro H9 m9 src9 Q2 q2
      have hw9 : H9 wa = some (.lst (ts.map V.ref)) := m9 _ _ (e8 _ _ (e6 _ _ hw4) (sne nw0)) fun u => by
        rcases u with u | ⟨i, u⟩
        · exact sne nw0 u
        · rw [hM.no nw0] at u; cases u
      refine ev_if (b := decide ((0 : Int) < (ex : Int))) (v := .int (if (0 : Int) < (ex : Int) then (ex : Int) else (ts.length : Int))) (et_test (ev_op (ev_var rfl) ev_c rv_I0)) (fun hb => ?_) (fun hb => ?_) H9 (Ex.refl _) _ fun H10 e10 => q2 _ H10 (by split <;> omega) (src9.ex e10) (Sm.of e10)
      · rw [if_pos (of_decide_eq_true hb)]
        exact ev_var rfl
      · rw [if_neg (of_decide_eq_false hb)]
        exact ev_is (ev_len (ev_var rfl) (SqL.of hw9)) (by rw [List.length_map])
    · intro H9 m9 _ src9 Q2 q2
      have hqa9 : H9 qa = some (.lst (nv qua)) := m9 _ _ (e8 _ _ (e6 _ _ hqa) (sne nqa0)) fun u => by
        rcases u with u | ⟨i, u⟩
        · exact sne nqa0 u
        · rw [hM.no nqa0] at u; cases u
      exact ⟨_, rfl, q2 qa H9 hqa9 rfl (hM.no nqa0) (sne nqa0) src9 (Sm.refl _ _)⟩
    · intro sz qu σ' H' hsz _ hMd hqu src' m'
      subst hqu
      refine k _ (L.grow A.n wa nd br dm qu ts) H' push_agree (hG.push (ok sz hsz)) rfl hMd (fun b hb => ?_) src' (m08.monoL m')
      by_cases e : b = dm
      · exact .inr (.inr e)
      · rcases grow_new (H := fun p => if p = dm then none else H p) hb (by simp [nw0, nnd0, nbr0, nqa0]) (fun t ht => by simp [nts0 t ht]) with q | q
        · exact .inl q
        · simp only [if_neg e] at q
          exact .inr (.inl q)
end
end K27
set_option Elab.async false
set_option linter.all false
set_option maxRecDepth 100000
set_option maxHeartbeats 4000000
/-! K27W7: the models of the law. -/
namespace K27
open PySem PySem.Spec PyProof.Rows L2 Evl
local macro_rules | `(tactic| walk_at "rd") => `(tactic| repeat (first | refine ⟨_, _, rfl, rfl, ?_⟩ | refine ⟨_, rfl, ?_⟩ | refine ⟨_, _, _, _, rfl, rfl, SqL.of (by assumption), rfl, ?_⟩ | refine Or.inl ⟨_, rfl, ?_⟩ | refine ⟨Or.inl (by decide), ?_⟩ | refine ⟨(by decide : _ ≠ _), ?_⟩))
def Tb (H : Hp) (tbl : List (Addr × Role)) : Prop := (tbl.map (·.1)).Nodup ∧ ∀ e ∈ tbl, H e.1 ≠ none
theorem Tb.ex {H H' : Hp} {tbl : List (Addr × Role)} (h : Tb H tbl) (e : Ex H H') : Tb H' tbl := ⟨h.1, fun x hx q => by
  cases r : H x.1 with
  | none => exact h.2 x hx r
  | some o => rw [e _ o r] at q; cases q⟩
theorem Tb.add {H H' : Hp} {tbl : List (Addr × Role)} (h : Tb H tbl) {p : Addr} {r : Role} (hp : H p = none) (e : Ex H H') (hp' : H' p ≠ none) : Tb H' ((p, r) :: tbl) := by
  refine ⟨?_, fun x hx => ?_⟩
  · rw [List.map_cons, List.nodup_cons]
    refine ⟨fun q => ?_, h.1⟩
    obtain ⟨x, hx, ex⟩ := List.mem_map.mp q
    exact h.2 x hx (by rw [ex]; exact hp)
  · rcases List.mem_cons.mp hx with rfl | hx
    · exact hp'
    · exact (h.ex e).2 x hx
theorem lk : ∀ {tbl : List (Addr × Role)} {a : Addr} {r : Role}, (tbl.map (·.1)).Nodup → (a, r) ∈ tbl → tbl.lookup a = some r
  | (b, q) :: tbl, a, r, h, hm => by
    rw [List.map_cons, List.nodup_cons] at h
    rw [List.lookup_cons]
    rcases List.mem_cons.mp hm with e | hm
    · cases e
      simp
    · have ne : ¬ a = b := fun e => h.1 (List.mem_map.mpr ⟨(a, r), hm, e⟩)
      have : (a == b) = false := by simpa using ne
      rw [this]
      exact lk h.2 hm
theorem lk_inv : ∀ {tbl : List (Addr × Role)} {a : Addr} {r : Role}, tbl.lookup a = some r → (a, r) ∈ tbl
  | [], a, r, h => by cases h
  | (b, q) :: tbl, a, r, h => by
    rw [List.lookup_cons] at h
    by_cases e : (a == b) = true
    · rw [e] at h
      have : a = b := by simpa using e
      subst this
      cases h
      exact .head _
    · have e' : (a == b) = false := by simpa using e
      rw [e'] at h
      exact .tail _ (lk_inv h)
section
variable {σ : L2.St} {H : Hp} {Q : VK}
/-- [[]] -/
theorem nest (q : ∀ e l H2, H e = none → Ex H H2 → (∃ H1, Ex H H1 ∧ H1 e = some (.lst []) ∧ H1 l = none ∧ Ex H1 H2) → H2 e = some (.lst []) → H2 l = some (.lst [.ref e]) → Q (.ref l) H2) : tLst (tCons (tLst tNil) tNil) σ H Q :=
  (show tLst tNil σ H (fun x H1 => tNil σ H1 fun vs H2 => (x :: vs).length ≤ sizeLine ∧ ∀ l, H2 l = none → Q (.ref l) (upd H2 l (.lst (x :: vs)))) from el_lst (vs := []) ea_nil (by show 0 ≤ 100000; decide) H (Ex.refl _) _ fun e H1 ne e1 he => ⟨sz_of (by show 1 ≤ 100000; decide), fun l hl => q e l _ ne (e1.trans (Ex.new hl)) ⟨H1, e1, he, hl, Ex.new hl⟩ (Ex.new hl _ _ he) upd_same⟩)
theorem el_lst_go {ta : TA} {xs : List V} (h : EvA ta σ H xs) (hl : xs.length ≤ 1000) (q : ∀ p H2, H p = none → Ex H H2 → H2 p = some (.lst xs) → Q (.ref p) H2) : tLst ta σ H Q := el_lst h (by omega) H (Ex.refl _) Q q
/-- what stands behind the base in the model's display -/
theorem init_md {cells : Nat} {b0 : Addr} {xs : List Int} (c1 : 1 ≤ cells) (c2 : cells ≤ 20) (hb : H b0 = some (.lst (xs.map V.int))) (hx : xs.length = cells)
    (k : ∀ L H', Ex H H' → Md H' L (ab0 cells) → (∀ b, L.ρ b ≠ .no → H b = none ∨ b = b0) → Q (.ref L.m) H') :
    tCons (tLst (tCons (tLst tNil) tNil)) (tCons (tLst (tCons (tC (.int 0)) tNil)) (tCons (tLst (tCons (tLst tNil) tNil)) (tCons (tLst (tCons (tLst tNil) tNil)) (tCons (tLst (tCons (tLst tNil) tNil)) (tCons (tLst (tCons (tLst tNil) tNil)) tNil))))) σ H (fun vs H1 => (V.ref b0 :: vs).length ≤ sizeLine ∧ ∀ p, H1 p = none → Q (.ref p) (upd H1 p (.lst (.ref b0 :: vs)))) := by
  have t0 : Tb H [(b0, .ls 0)] := ⟨by simp, fun x hx => by
    have : x = (b0, .ls 0) := by simpa using hx
    subst this
    rw [hb]; exact fun e => nomatch e⟩
  have some_ne : ∀ {H : Hp} {a : Addr} {o : HO}, H a = some o → H a ≠ none := fun h e => by rw [h] at e; cases e
  have step : ∀ {H H2 : Hp} {tbl : List (Addr × Role)} {e l : Addr} {r1 r2 : Role}, Tb H tbl → H e = none → (∃ H1, Ex H H1 ∧ H1 e = some (.lst []) ∧ H1 l = none ∧ Ex H1 H2) → H2 l = some (.lst [.ref e]) → Tb H2 ((l, r2) :: (e, r1) :: tbl) := fun t ne ⟨H1, a1, a2, a3, a4⟩ hl => (t.add ne a1 (some_ne a2)).add a3 a4 (some_ne hl)
  refine nest fun e1 l1 H1 n1 x1 a1 he1 hl1 => ?_
  have t1 := step (r1 := .inn 1 0) (r2 := .ls 1) t0 n1 a1 hl1
  refine el_lst_go (xs := [.int 0]) (ea_cons ev_c ea_nil) (by decide) fun l2 H2 n2 x2 hl2 => ?_
  have t2 := t1.add (r := .ls 2) n2 x2 (some_ne hl2)
  refine nest fun e3 l3 H3 n3 x3 a3 he3 hl3 => ?_
  have t3 := step (r1 := .inn 3 0) (r2 := .ls 3) t2 n3 a3 hl3
  refine nest fun e4 l4 H4 n4 x4 a4 he4 hl4 => ?_
  have t4 := step (r1 := .inn 4 0) (r2 := .ls 4) t3 n4 a4 hl4
  refine nest fun e5 l5 H5 n5 x5 a5 he5 hl5 => ?_
  have t5 := step (r1 := .inn 5 0) (r2 := .ls 5) t4 n5 a5 hl5
  refine nest fun e6 l6 H6 n6 x6 a6 he6 hl6 => ?_
  have t6 := step (r1 := .inn 6 0) (r2 := .ls 6) t5 n6 a6 hl6
  refine ⟨sz_of (by show 7 ≤ 100000; decide), fun m nm => ?_⟩
  have xm : Ex H6 (upd H6 m (.lst [.ref b0, .ref l1, .ref l2, .ref l3, .ref l4, .ref l5, .ref l6])) := Ex.new nm
  have hm : upd H6 m (.lst [.ref b0, .ref l1, .ref l2, .ref l3, .ref l4, .ref l5, .ref l6]) m = some (.lst [.ref b0, .ref l1, .ref l2, .ref l3, .ref l4, .ref l5, .ref l6]) := upd_same
  have tm := t6.add (r := .top) nm xm (some_ne hm)
  show Q (.ref m) (upd H6 m (.lst [.ref b0, .ref l1, .ref l2, .ref l3, .ref l4, .ref l5, .ref l6]))
  revert xm hm tm
  generalize upd H6 m (.lst [.ref b0, .ref l1, .ref l2, .ref l3, .ref l4, .ref l5, .ref l6]) = H7
  intro xm hm tm
  have z6 := xm
  have z5 := x6.trans z6
  have z4 := x5.trans z5
  have z3 := x4.trans z4
  have z2 := x3.trans z3
  have z1 := x2.trans z2
  have z0 := x1.trans z1
  have rl : ∀ {a : Addr} {r : Role}, (a, r) ∈ [(m, Role.top), (l6, .ls 6), (e6, .inn 6 0), (l5, .ls 5), (e5, .inn 5 0), (l4, .ls 4), (e4, .inn 4 0), (l3, .ls 3), (e3, .inn 3 0), (l2, .ls 2), (l1, .ls 1), (e1, .inn 1 0), (b0, .ls 0)] → (([(m, Role.top), (l6, .ls 6), (e6, .inn 6 0), (l5, .ls 5), (e5, .inn 5 0), (l4, .ls 4), (e4, .inn 4 0), (l3, .ls 3), (e3, .inn 3 0), (l2, .ls 2), (l1, .ls 1), (e1, .inn 1 0), (b0, .ls 0)] : List (Addr × Role)).lookup a).getD .no = r := fun h => by rw [lk tm.1 h]; rfl
  have e0 : ∀ k, asc (ab0 cells).n ((ab0 cells).R k) = [] := fun k => rfl
  refine k ⟨m, fun i => if i = 0 then b0 else if i = 1 then l1 else if i = 2 then l2 else if i = 3 then l3 else if i = 4 then l4 else if i = 5 then l5 else l6, fun i _ => if i = 1 then e1 else if i = 3 then e3 else if i = 4 then e4 else if i = 5 then e5 else e6, fun b => (([(m, Role.top), (l6, .ls 6), (e6, .inn 6 0), (l5, .ls 5), (e5, .inn 5 0), (l4, .ls 4), (e4, .inn 4 0), (l3, .ls 3), (e3, .inn 3 0), (l2, .ls 2), (l1, .ls 1), (e1, .inn 1 0), (b0, .ls 0)] : List (Addr × Role)).lookup b).getD .no⟩ H7 z0 ⟨rl (by simp), fun i hi => ?_, fun i j hi hj => ?_, fun b hb => ?_, hm, ⟨xs, z0 _ _ hb, hx⟩, fun i hi => ?_, z2 _ _ hl2, fun j hj => ⟨[], z1 _ _ he1, trivial, fun t ht => nomatch ht⟩, fun j hj => z3 _ _ he3, fun j hj => z4 _ _ he4, fun j hj => z5 _ _ he5, fun j hj => z6 _ _ he6, Nat.zero_le _, c1, c2⟩ fun b hb => ?_
  · have : i = 0 ∨ i = 1 ∨ i = 2 ∨ i = 3 ∨ i = 4 ∨ i = 5 ∨ i = 6 := by omega
    rcases this with h | h | h | h | h | h | h <;> subst h <;> exact rl (by simp)
  · have hj0 : j = 0 := Nat.le_zero.mp hj
    subst hj0
    rcases hi with h | h | h | h | h <;> subst h <;> exact rl (by simp)
  · intro q
    cases e : ([(m, Role.top), (l6, .ls 6), (e6, .inn 6 0), (l5, .ls 5), (e5, .inn 5 0), (l4, .ls 4), (e4, .inn 4 0), (l3, .ls 3), (e3, .inn 3 0), (l2, .ls 2), (l1, .ls 1), (e1, .inn 1 0), (b0, .ls 0)] : List (Addr × Role)).lookup b with
    | none => apply hb; show Option.getD _ _ = _; rw [e]; rfl
    | some r => exact tm.2 _ (lk_inv e) q
  · rcases hi with h | h | h | h | h <;> subst h
    · exact z1 _ _ hl1
    · exact z3 _ _ hl3
    · exact z4 _ _ hl4
    · exact z5 _ _ hl5
    · exact z6 _ _ hl6
  · cases e : ([(m, Role.top), (l6, .ls 6), (e6, .inn 6 0), (l5, .ls 5), (e5, .inn 5 0), (l4, .ls 4), (e4, .inn 4 0), (l3, .ls 3), (e3, .inn 3 0), (l2, .ls 2), (l1, .ls 1), (e1, .inn 1 0), (b0, .ls 0)] : List (Addr × Role)).lookup b with
    | none => exfalso; apply hb; show Option.getD _ _ = _; rw [e]; rfl
    | some r =>
      have f1 : ∀ {p}, H1 p = none → H p = none := fun h => fresh_back x1 h
      have f2 : ∀ {p}, H2 p = none → H p = none := fun h => f1 (fresh_back x2 h)
      have f3 : ∀ {p}, H3 p = none → H p = none := fun h => f2 (fresh_back x3 h)
      have f4 : ∀ {p}, H4 p = none → H p = none := fun h => f3 (fresh_back x4 h)
      have f5 : ∀ {p}, H5 p = none → H p = none := fun h => f4 (fresh_back x5 h)
      have f6 : ∀ {p}, H6 p = none → H p = none := fun h => f5 (fresh_back x6 h)
      have q1 : ∀ {Ha Hb : Hp} {e l : Addr}, (∃ H1, Ex Ha H1 ∧ H1 e = some (.lst []) ∧ H1 l = none ∧ Ex H1 Hb) → Ha l = none := fun ⟨_, a, _, b, _⟩ => fresh_back a b
      have hmem := lk_inv e
      simp only [List.mem_cons, List.mem_nil_iff, or_false, Prod.mk.injEq] at hmem
      rcases hmem with h | h | h | h | h | h | h | h | h | h | h | h | h <;> obtain ⟨h, _⟩ := h <;> subst h
      · exact .inl (f6 nm)
      · exact .inl (f5 (q1 a6))
      · exact .inl (f5 n6)
      · exact .inl (f4 (q1 a5))
      · exact .inl (f4 n5)
      · exact .inl (f3 (q1 a4))
      · exact .inl (f3 n4)
      · exact .inl (f2 (q1 a3))
      · exact .inl (f2 n3)
      · exact .inl (f1 n2)
      · exact .inl (q1 a1)
      · exact .inl n1
      · exact .inr rfl
end
/-- the model's display -/
theorem init_model {σ : L2.St} {H : Hp} {Q : VK} {te0 : TE} {cells : Nat} (R : Addr → Hp → Prop) (c1 : 1 ≤ cells) (c2 : cells ≤ 20) (h0 : ∀ Q0 : VK, (∀ b0 (xs : List Int) H1, H1 b0 = some (.lst (xs.map V.int)) → xs.length = cells → R b0 H1 → Q0 (.ref b0) H1) → te0 σ H Q0)
    (k : ∀ b0 H1 L H', R b0 H1 → Ex H1 H' → Md H' L (ab0 cells) → (∀ b, L.ρ b ≠ .no → H1 b = none ∨ b = b0) → Q (.ref L.m) H') :
    tLst (tCons te0 (tCons (tLst (tCons (tLst tNil) tNil)) (tCons (tLst (tCons (tC (.int 0)) tNil)) (tCons (tLst (tCons (tLst tNil) tNil)) (tCons (tLst (tCons (tLst tNil) tNil)) (tCons (tLst (tCons (tLst tNil) tNil)) (tCons (tLst (tCons (tLst tNil) tNil)) tNil))))))) σ H Q :=
  h0 _ fun b0 xs H1 hb hx hr => init_md (Q := Q) c1 c2 hb hx fun L H' e hM hL => k b0 H1 L H' hr e hM hL
section
variable {w : World} {K : PySem.W.Frag} {mg : Str → Option Value} {base : Heap}
/-- [draw(.., 2001) - 1000 for ..] -/
theorem dc_base {σ : L2.St} {H : Hp} {ta : TA} {te : TE} {s : Addr} {j : Nat} {vs : List Nat} {n : Nat} (src : Src H s) (h : EvA ta σ H [.int (n : Int)]) (hn : n ≤ 1000) (hw : ∀ x, wipe ((wipe σ vs).set j (some x)) vs = wipe σ vs)
    (he : ∀ x, EvD s te ((wipe σ vs).set j (some x)) H (fun v => ∃ i : Int, v = .int i)) {Q : VK}
    (q : ∀ p (l : List Int) H2, H p = none → H2 p = some (.lst (l.map V.int)) → l.length = n → Src H2 s → Sm (· = s) H H2 → Q (.ref p) H2) : tLc (iRng1 ta) (gName j) tYes te vs σ H Q := by
  refine h H (Ex.refl _) _ fun H1 e1 => ⟨_, rfl, by omega, by omega, fun Dl hD => ?_⟩
  rw [Int.toNat_natCast]
  have src1 := src.ex e1
  have nDs : Dl ≠ s := fun e => by subst e; exact src1.some hD
  refine lc_range (lo := 0) (n := n) (fun i H' => Src H' s ∧ Sm (· = s) H1 H' ∧ ∃ l : List Int, H' Dl = some (.lst (l.map V.int)) ∧ l.length = i) ⟨?_, Sm.of (Ex.new hD), [], upd_same, rfl⟩ (fun i H' hi p => ?_) (fun H' p => ?_)
  · obtain ⟨c0, c1, c2, hc⟩ := src1
    exact ⟨c0, c1, c2, by rw [upd_ne nDs.symm]; exact hc⟩
  · obtain ⟨p2, p3, l, p4, p5⟩ := p
    refine ⟨hw _, ?_⟩
    refine he _ H' (Sm.pre e1 p3) p2 _ ?_
    rintro _ H4 ⟨v, rfl⟩ s4 e4
    have h4 := e4 _ _ p4 nDs
    refine ⟨_, h4, sz_lt (by rw [List.length_map]; omega), ?_, (p3.trans e4).upd (.inr hD), l ++ [v], by rw [upd_same]; simp, by simp [p5]⟩
    obtain ⟨c0, c1, c2, hc⟩ := s4
    exact ⟨c0, c1, c2, by rw [upd_ne nDs.symm]; exact hc⟩
  · obtain ⟨p2, p3, l, p4, p5⟩ := p
    refine q Dl l H' ?_ p4 p5 p2 (Sm.pre e1 p3)
    exact fresh_back e1 hD
theorem el_ifL {σ : L2.St} {H : Hp} {ta tb : TE} {t : TT} {xs : List V} {b : Bool} (h : EvT t σ H b) (h1 : b = true → EvL ta σ H xs) (h2 : b = false → EvL tb σ H xs) : EvL (tIf t ta tb) σ H xs := fun H1 e Q q => h H1 e _ fun H2 e2 => by
  cases b with
  | true =>
    show ta σ H2 Q
    exact h1 rfl H2 (e.trans e2) Q fun p H3 hp e3 h3 => q p H3 (fresh_back e2 hp) (e2.trans e3) h3
  | false =>
    show tb σ H2 Q
    exact h2 rfl H2 (e.trans e2) Q fun p H3 hp e3 h3 => q p H3 (fresh_back e2 hp) (e2.trans e3) h3
theorem cons_go {σ : L2.St} {H : Hp} {te : TE} {tr : TA} {Q : List V → Hp → Prop} (h : te σ H (fun x H1 => tr σ H1 fun xs H2 => Q (x :: xs) H2)) : tCons te tr σ H Q := h
theorem op_go {σ : L2.St} {H : Hp} {ta tb : TE} {r : R2} {Q : VK} (h : ta σ H (fun x H1 => tb σ H1 fun y H2 => r x y H2 Q)) : tOp r ta tb σ H Q := h
theorem s_ifD {σ : L2.St} {H : Hp} {c : TT} {tu tw : TS} {D : Ends} (h : c σ H (fun b H1 => if b = true then tu D σ H1 else tw D σ H1)) : tIfS c tu tw D σ H := h
theorem q_ifD {σ : L2.St} {H : Hp} {c : TT} {tu tw tz : TS} {D : Ends} (h : c σ H (fun b H1 => if b = true then tu { D with nx := tz D } σ H1 else tw { D with nx := tz D } σ H1)) : tSeq (tIfS c tu tw) tz D σ H := h
/-- a call as a statement, three names ahead of the last argument -/
theorem q_call4 {σ : L2.St} {H : Hp} {te : TE} {sp : Sp} {i j k : Nat} {a b c : V} {D : Ends} (ha : σ[i]? = some (some a)) (hb : σ[j]? = some (some b)) (hc : σ[k]? = some (some c)) (h : te σ H (fun x H1 => sp [a, b, c, x] H1 (fun _ H2 => D.nx σ H2) E0)) :
    tDrop (tCall sp [] E0 (tCons (tVar i) (tCons (tVar j) (tCons (tVar k) (tCons te tNil))))) D σ H := ⟨a, ha, b, hb, c, hc, h⟩
theorem q_forD {σ : L2.St} {H : Hp} {te : TE} {s : Addr} {j : Nat} {m : Int} {tb tz : TS} {D : Ends} (hd : ∀ Q : VK, (∀ (r : Nat) H2, (r : Int) < m → Src H2 s → Sm (· = s) H H2 → Q (.int (r : Int)) H2) → te σ H Q) (hm : m ≤ 1000)
    (k : ∀ (r : Nat) H2, (r : Int) < m → Src H2 s → Sm (· = s) H H2 → ∃ Pv : Nat → L2.St → Hp → Prop, Pv 0 σ H2 ∧ (∀ (i : Nat) σ' H', i < r → Pv i σ' H' → tb { D with nx := Pv (i + 1), ct := Pv (i + 1), bk := tz D } (σ'.set j (some (.int (i : Int)))) H') ∧ ∀ σ' H', Pv r σ' H' → tz D σ' H') :
    tSeq (tFor (iRng1 (tCons te tNil)) (gName j) tb) tz D σ H := hd _ fun r H2 hr s2 m2 => ⟨(r : Int), rfl, by omega, by omega, by
    obtain ⟨Pv, h0, hs, he⟩ := k r H2 hr s2 m2
    rw [Int.toNat_natCast]
    refine for_range (lo := 0) (n := r) Pv h0 (fun i σ' H' hi p => ?_) he
    have e0 : (0 : Int) + (i : Int) = (i : Int) := Int.zero_add _
    show tb { D with nx := Pv (i + 1), ct := Pv (i + 1), bk := tz D } (σ'.set j (some (.int ((0 : Int) + (i : Int))))) H'
    rw [e0]
    exact hs i σ' H' hi p⟩
theorem dr_go {σ : L2.St} {H : Hp} {te : TE} {s : Addr} {i : Nat} {m : Int} (src : Src H s) (hs : σ[i]? = some (some (.ref s))) (hm : ∀ H1, Sm (· = s) H H1 → Ev te σ H1 (.int m)) (h0 : 0 < m) (h1 : m < 1000000) : ∀ Q : VK, (∀ (r : Nat) H2, (r : Int) < m → Src H2 s → Sm (· = s) H H2 → Q (.int (r : Int)) H2) → tCall spDraw [] E0 (tCons (tVar i) (tCons te tNil)) σ H Q := fun Q q =>
  ed_draw hs hm h0 h1 H (Sm.refl _ _) src Q fun v H2 ⟨r, hr, hlt⟩ s2 m2 => by subst hr; exact q r H2 hlt s2 m2
end
end K27
set_option Elab.async false
set_option linter.all false
set_option maxRecDepth 100000
set_option maxHeartbeats 400000
/-! K27W8: the models of the law, walked. -/
namespace K27
open PySem PySem.Spec PyProof.Rows L2 Evl
local macro_rules | `(tactic| walk_at "rd") => `(tactic| repeat (first | refine ⟨_, _, rfl, rfl, ?_⟩ | refine ⟨_, rfl, ?_⟩ | refine ⟨_, _, _, _, rfl, rfl, SqL.of (by assumption), rfl, ?_⟩ | refine Or.inl ⟨_, rfl, ?_⟩ | refine ⟨Or.inl (by decide), ?_⟩ | refine ⟨(by decide : _ ≠ _), ?_⟩))
section
variable {w : World} {K : PySem.W.Frag} {mg : Str → Option Value} {base : Heap}
theorem sc_l_model : FnScope ["_law_source_here", "_law_most", "_law_cells", "_law_base", "_law_model_here", "_law_turn", "_law_place"] ["_law_source_here", "_law_most", "_law_cells"] (defScope s_l_model) := ⟨rfl, rfl, rfl, by decide +kernel, rfl, by decide +kernel, by decide +kernel⟩
/-- a new model -/
def RetM (s : Addr) (P : Ab → Prop) (H : Hp) (Q : VK) : Prop := ∀ L A H', P A → Good A → Md H' L A → (∀ b, L.ρ b ≠ .no → H b = none) → Src H' s → Sm (· = s) H H' → Q (.ref L.m) H'
def spModel : Sp := fun vs H Q _ => ∃ (s : Addr) (most cells : Nat), vs = [.ref s, .int (most : Int), .int (cells : Int)] ∧ Src H s ∧ most ≤ 25 ∧ 1 ≤ cells ∧ cells ≤ 20 ∧ RetM s (fun A => A.n ≤ most) H Q
theorem ok_l_model (T : Txt K mg) : OkC PP w K mg base CX0 4 ("_law_model", none) ["_law_source_here", "_law_most", "_law_cells"] spModel :=
  ok0 T.F_l_model sc_l_model (fun _ _ _ _ _ _ us hl => match us, hl with | [_, _, _], _ => rfl) (by rintro vs H Q E ⟨s, m, c, rfl, _⟩; rfl) fun f cdv A0 outer s0 H vs Q E hr h => by
    obtain ⟨s, most, cells, rfl, src, hmo, hc1, hc2, k⟩ := h
    refine ⟨_, (pss_cons (ps_setLc (i := 3) (own := [("_law_place", 6)]) (g := gName 6) (by rfl) sc_l_model.nd rfl rfl (sw_true rfl rfl rfl (by decide +kernel)) (pi_range1 (by rfl) T.z_range (pa_cons (pv 2) pa_nil)) (blkOk_by (by rfl)) (fun _ _ _ _ _ => pg_name (i := 6) sc_l_model.nd rfl (by first | exact Or.inl rfl | exact Or.inr rfl)) (fun _ _ _ _ _ => pts_nil) (fun _ _ _ _ _ => (pe_op op_sub (pe_c (ok_l_draw T) (hr.mono (by decide)) T.g_l_draw pass0 (pa_cons (pv 0) (pa_cons pe_int pa_nil))) pe_int))) (pss_cons (ps_set (i := 4) sc_l_model.nd rfl (Or.inl rfl) (pe_lst (pa_cons (pv 3) (pa_cons (pe_lst (pa_cons (pe_lst pa_nil) pa_nil)) (pa_cons (pe_lst (pa_cons pe_int pa_nil)) (pa_cons (pe_lst (pa_cons (pe_lst pa_nil) pa_nil)) (pa_cons (pe_lst (pa_cons (pe_lst pa_nil) pa_nil)) (pa_cons (pe_lst (pa_cons (pe_lst pa_nil) pa_nil)) (pa_cons (pe_lst (pa_cons (pe_lst pa_nil) pa_nil)) pa_nil))))))))) (pss_cons (ps_for PassesOwn.never rfl (pi_range1 (by rfl) T.z_range (pa_cons (pe_c (ok_l_draw T) (hr.mono (by decide)) T.g_l_draw pass0 (pa_cons (pv 0) (pa_cons (pe_op op_add (pv 1) pe_int) pa_nil))) pa_nil)) (pg_name (i := 5) sc_l_model.nd rfl (Or.inl rfl)) (pss_one (ps_expr (pe_c (ok_l_grow T) (hr.mono (by decide)) T.g_l_grow pass0 (pa_cons (pv 0) (pa_cons (pv 4) (pa_cons (pv 2) pa_nil))))))) (pss_one (ps_ret (pv 4)))))), ?_⟩
    refine q_do ?_
    refine dc_base (s := s) (n := cells) src (ea_cons (ev_var rfl) ea_nil) (by omega) (fun _ => rfl) (fun x => ed_val rfl) ?_
    intro b0 xs H1 nb hb hx src1 m1
    refine q_do (init_model (fun b H2 => b = b0 ∧ H2 = H1) hc1 hc2 (fun Q0 q0 => ⟨_, rfl, q0 b0 xs H1 hb hx ⟨rfl, rfl⟩⟩) ?_)
    rintro _ _ L H2 ⟨rfl, rfl⟩ e2 hM hL
    have m2 := m1.ex e2
    have src2 := src1.ex e2
    rename_i b0 H1
    have nb0 : H b0 = none := nb
    have fr : ∀ {b}, H1 b = none → H b = none := fun hp => (m1.free hp).resolve_left fun e => by subst e; exact src1.some hp
    refine q_forD (s := s) (m := (most : Int) + 1) (dr_go src2 rfl (fun H1 _ => ev_op (ev_var rfl) ev_c rv_I0) (by omega) (by omega)) (by omega) fun r H3 hr2 src3 m3 => ?_
    refine ⟨fun i σ H' => ∃ L A x, σ = [some (.ref s), some (.int (most : Int)), some (.int (cells : Int)), some (.ref b0), some (.ref L.m), x, none] ∧ A.n ≤ i ∧ A.cells = cells ∧ Good A ∧ Md H' L A ∧ (∀ b, L.ρ b ≠ .no → H b = none) ∧ Src H' s ∧ Sm (· = s) H H', ?_, fun i σ H' hi p => ?_, fun σ H' p => ?_⟩
    · refine ⟨L, ab0 cells, _, rfl, Nat.le_refl _, rfl, good0 cells, hM.sm m3 fun b e => ?_, fun b hb => ?_, src3, m2.trans m3⟩
      · subst e
        cases q : L.ρ b with
        | no => rfl
        | _ =>
          rcases hL b (by rw [q]; exact fun e => nomatch e) with h | h
          · exact absurd h src1.some
          · exact absurd (h ▸ nb0) src.some
      · rcases hL b hb with h | h
        · exact fr h
        · rw [h]; exact nb0
    · obtain ⟨L, A, x, rfl, hAn, hAc, hG, hM, hL, src', m'⟩ := p
      have ns : L.ρ s = .no := by
        cases q : L.ρ s with
        | no => rfl
        | _ => exact absurd (hL s (by rw [q]; exact fun e => nomatch e)) src.some
      refine ⟨_, rfl, _, rfl, _, rfl, s, L, A, by rw [hAc]; rfl, src', ns, hM, hG, by omega, ?_⟩
      intro A' L' H4 ag hG' hm hM' hL' src4 m4
      refine ⟨L', A', _, by rw [hm]; rfl, by rw [ag.n]; omega, by rw [ag.cells]; exact hAc, hG', hM', fun b hb => ?_, src4, Sm.monoN m' m4 fun b hb => ?_⟩
      · rcases hL' b hb with h | h
        · exact hL b h
        · rcases m'.free h with e | e
          · subst e; exact absurd h src'.some
          · exact e
      · rcases hb with h | h
        · exact .inl h
        · exact .inr (hL b h)
    · obtain ⟨L, A, x, rfl, hAn, hAc, hG, hM, hL, src', m'⟩ := p
      exact ⟨_, rfl, k L A H' (by omega) hG hM hL src' m'⟩
theorem sc_l_tree : FnScope ["_law_source_here", "_law_most", "_law_model_here", "_law_turn", "_law_number", "_law_above", "_law_demands", "_law_needs_here", "_law_writes_here", "_law_bars_here", "_law_other"] ["_law_source_here", "_law_most"] (defScope s_l_tree) := ⟨rfl, rfl, rfl, by decide +kernel, rfl, by decide +kernel, by decide +kernel⟩
def spTree : Sp := fun vs H Q _ => ∃ (s : Addr) (most : Nat), vs = [.ref s, .int (most : Int)] ∧ Src H s ∧ most ≤ 25 ∧ RetM s (fun A => A.n ≤ most ∧ Tree A ∧ 1 ≤ A.cells) H Q
theorem not_src {s : Addr} {L : Lay} {H : Hp} (src : Src H s) (hL : ∀ b, L.ρ b ≠ .no → H b = none) : L.ρ s = .no := by
  cases q : L.ρ s with
  | no => rfl
  | _ => exact absurd (hL s (by rw [q]; exact fun e => nomatch e)) src.some
theorem ok_l_tree (T : Txt K mg) : OkC PP w K mg base CX0 2 ("_law_tree", none) ["_law_source_here", "_law_most"] spTree :=
  ok0 T.F_l_tree sc_l_tree (fun _ _ _ _ _ _ us hl => match us, hl with | [_, _], _ => rfl) (by rintro vs H Q E ⟨s, m, rfl, _⟩; rfl) fun f cdv A0 outer s0 H vs Q E hr h => by
    obtain ⟨s, most, rfl, src, hmo, k⟩ := h
    refine ⟨_, (pss_cons (ps_set (i := 2) sc_l_tree.nd rfl (Or.inl rfl) (pe_lst (pa_cons (pe_lst (pa_cons (pe_c (ok_l_draw T) (hr.mono (by decide)) T.g_l_draw pass0 (pa_cons (pv 0) (pa_cons pe_int pa_nil))) (pa_cons pe_int pa_nil))) (pa_cons (pe_lst (pa_cons (pe_lst pa_nil) pa_nil)) (pa_cons (pe_lst (pa_cons pe_int pa_nil)) (pa_cons (pe_lst (pa_cons (pe_lst pa_nil) pa_nil)) (pa_cons (pe_lst (pa_cons (pe_lst pa_nil) pa_nil)) (pa_cons (pe_lst (pa_cons (pe_lst pa_nil) pa_nil)) (pa_cons (pe_lst (pa_cons (pe_lst pa_nil) pa_nil)) pa_nil))))))))) (pss_cons (ps_for PassesOwn.never rfl (pi_range1 (by rfl) T.z_range (pa_cons (pe_c (ok_l_draw T) (hr.mono (by decide)) T.g_l_draw pass0 (pa_cons (pv 0) (pa_cons (pe_op op_add (pv 1) pe_int) pa_nil))) pa_nil)) (pg_name (i := 3) sc_l_tree.nd rfl (Or.inl rfl)) (pss_cons (ps_set (i := 4) sc_l_tree.nd rfl (Or.inl rfl) (pe_callB (call_lenK (K := K)) (by rfl) T.z_len (by decide +kernel) (pa_cons (pe_ix (ix_listK (K := K)) (pv 2) pe_int (fun _ _ => rfl)) pa_nil))) (pss_cons (ps_set (i := 5) sc_l_tree.nd rfl (Or.inl rfl) (pe_c (ok_l_draw T) (hr.mono (by decide)) T.g_l_draw pass0 (pa_cons (pv 0) (pa_cons (pv 4) pa_nil)))) (pss_cons (ps_set (i := 6) sc_l_tree.nd rfl (Or.inl rfl) (pe_ifExp (pt_cmpR op_gt (pv 5) pe_int (nomark _)) (pe_lst (pa_cons (pv 5) pa_nil)) (pe_lst pa_nil))) (pss_cons (ps_set (i := 7) sc_l_tree.nd rfl (Or.inl rfl) (pe_c (ok_l_needs T) (hr.mono (by decide)) T.g_l_needs pass0 (pa_cons (pv 2) (pa_cons (pv 6) pa_nil)))) (pss_cons (ps_set (i := 8) sc_l_tree.nd rfl (Or.inl rfl) (pe_lst (pa_cons (pe_tup (pa_cons pe_int (pa_cons (pe_op op_add (pe_op op_mul (pv 4) pe_int) (pe_c (ok_l_draw T) (hr.mono (by decide)) T.g_l_draw pass0 (pa_cons (pv 0) (pa_cons pe_int pa_nil)))) pa_nil))) pa_nil))) (pss_cons (ps_set (i := 9) sc_l_tree.nd rfl (Or.inl rfl) (pe_c (ok_l_bars T) (hr.mono (by decide)) T.g_l_bars pass0 (pa_cons (pv 2) (pa_cons (pv 8) (pa_cons (pv 7) (pa_cons (pe_lst pa_nil) pa_nil)))))) (pss_cons (ps_expr (pe_appK (K := K) (pe_ix (ix_listK (K := K)) (pv 2) pe_int (fun _ _ => rfl)) (pa_cons (pv 8) pa_nil))) (pss_cons (ps_expr (pe_appK (K := K) (pe_ix (ix_listK (K := K)) (pv 2) pe_int (fun _ _ => rfl)) (pa_cons (pe_op op_add pe_int (pe_c (ok_l_draw T) (hr.mono (by decide)) T.g_l_draw pass0 (pa_cons (pv 0) (pa_cons pe_int pa_nil)))) pa_nil))) (pss_cons (ps_expr (pe_appK (K := K) (pe_ix (ix_listK (K := K)) (pv 2) pe_int (fun _ _ => rfl)) (pa_cons (pv 7) pa_nil))) (pss_cons (ps_expr (pe_appK (K := K) (pe_ix (ix_listK (K := K)) (pv 2) pe_int (fun _ _ => rfl)) (pa_cons (pv 9) pa_nil))) (pss_cons (ps_expr (pe_appK (K := K) (pe_ix (ix_listK (K := K)) (pv 2) pe_int (fun _ _ => rfl)) (pa_cons (pv 6) pa_nil))) (pss_cons (ps_expr (pe_appK (K := K) (pe_ix (ix_listK (K := K)) (pv 2) pe_int (fun _ _ => rfl)) (pa_cons (pe_lst pa_nil) pa_nil))) (pss_one (ps_for PassesOwn.never rfl (pi_listK (K := K) (pv 9)) (pg_name (i := 10) sc_l_tree.nd rfl (Or.inl rfl)) (pss_one (ps_expr (pe_appK (K := K) (pe_ix (ix_listK (K := K)) (pe_ix (ix_listK (K := K)) (pv 2) pe_int (fun _ _ => rfl)) (pv 10) (fun _ _ => rfl)) (pa_cons (pv 4) pa_nil))))))))))))))))))) (pss_one (ps_ret (pv 2))))), ?_⟩
    have sne : ∀ {p : Addr}, H p = none → p ≠ s := fun hp e => by subst e; exact src.some hp
    refine q_do (init_model (cells := 2) (fun b H2 => H b = none ∧ Sm (· = s) H H2 ∧ Src H2 s) (by decide) (by decide) (fun Q0 q0 => ?_) ?_)
    · refine dr_go src rfl (fun H1 _ => ev_c) (by decide) (by decide) _ fun r H1 hr1 src1 m1 => ?_
      refine ⟨sz_of (by show 2 ≤ 100000; decide), fun b hb => ?_⟩
      exact q0 b [(r : Int), 5] _ upd_same rfl ⟨(m1.free hb).resolve_left fun e => by subst e; exact src1.some hb, m1.ex (Ex.new hb), src1.ex (Ex.new hb)⟩
    rintro b0 H1 L H2 ⟨nb0, m1, src1⟩ e2 hM hL
    have m2 := m1.ex e2
    have src2 := src1.ex e2
    have fr : ∀ {b}, H1 b = none → H b = none := fun hp => (m1.free hp).resolve_left fun e => by subst e; exact src1.some hp
    refine q_forD (s := s) (m := (most : Int) + 1) (dr_go src2 rfl (fun H1 _ => ev_op (ev_var rfl) ev_c rv_I0) (by omega) (by omega)) (by omega) fun r H3 hr2 src3 m3 => ?_
    refine ⟨fun i σ H' => ∃ L A x y z t u v a b, σ = [some (.ref s), some (.int (most : Int)), some (.ref L.m), x, y, z, t, u, v, a, b] ∧ A.n ≤ i ∧ A.cells = 2 ∧ Good A ∧ Tree A ∧ Zero A ∧ Md H' L A ∧ (∀ b, L.ρ b ≠ .no → H b = none) ∧ Src H' s ∧ Sm (· = s) H H', ?_, fun i σ H' hi p => ?_, fun σ H' p => ?_⟩
    · have hL' : ∀ b, L.ρ b ≠ .no → H b = none := fun b hb => by
        rcases hL b hb with h | h
        · exact fr h
        · rw [h]; exact nb0
      exact ⟨L, ab0 2, _, _, _, _, _, _, _, _, rfl, Nat.le_refl _, rfl, good0 2, tree0 2, zero0 2, hM.sm m3 fun b e => by rw [e]; exact not_src src hL', hL', src3, m2.trans m3⟩
    · obtain ⟨L, A, x, y, z, t, u, v, a, b, rfl, hAn, hAc, hG, hTr, hZ, hM, hL, src', m'⟩ := p
      have ns : L.ρ s = .no := not_src src hL
      have back : ∀ {p : Addr}, H' p = none → H p = none := fun hp => (m'.free hp).resolve_left fun e => by subst e; exact src'.some hp
      have sne : ∀ {p : Addr}, H' p = none → p ≠ s := fun hp e => by subst e; exact src'.some hp
      have nU : ∀ b, b = s → L.ρ b = .no := fun b e => by rw [e]; exact ns
      have hal : ∀ S, (asc A.n S).length ≤ 1000 := fun S => by
        have := asc_len A.n S
        omega
      refine q_asg (v := .int ((A.n + 1 : Nat) : Int)) (ev_is (ev_len1 hM (ev_var rfl)) (by simp)) fun H1 e1 => ?_
      refine q_do ?_
      refine dr_go (src'.ex e1) rfl (fun H1 _ => ev_var rfl) (by omega) (by omega) _ fun ab H2 hab src2 m2 => ?_
      have m02 := Sm.pre e1 m2
      have hM2 := (hM.ex e1).sm m2 nU
      refine q_asgL (xs := nv (if 0 < ab then [ab] else [])) (el_ifL (b := decide ((0 : Int) < (ab : Int))) (et_test (ev_op (ev_var rfl) ev_c rv_I0)) (fun hb => ?_) (fun hb => ?_)) fun dm H3 ndm e3 hdm => ?_
      · rw [if_pos (by have := of_decide_eq_true hb; omega)]
        exact el_lst (ea_cons (ev_var rfl) ea_nil) (by show 1 ≤ 100000; decide)
      · rw [if_neg (by have := of_decide_eq_false hb; omega)]
        exact el_lst ea_nil (by show 0 ≤ 100000; decide)
      generalize hdem : (if 0 < ab then [ab] else []) = dem at hdm
      have hdr : ∀ d ∈ dem, 1 ≤ d ∧ d ≤ A.n := fun d hd => by
        rw [← hdem] at hd
        split at hd
        · have : d = ab := by simpa using hd
          omega
        · cases hd
      have hdl : dem.length ≤ 1 := by rw [← hdem]; split <;> simp
      have hdd : dem = [] ∨ ∃ a, dem = [a] ∧ 1 ≤ a ∧ a ≤ A.n := by
        rw [← hdem]
        split
        · exact .inr ⟨ab, rfl, by omega, by omega⟩
        · exact .inl rfl
      have src3 := src2.ex e3
      have hM3 := hM2.ex e3
      have ndm0 : H' dm = none := (m02.free ndm).resolve_left fun e => by subst e; exact src2.some ndm
      refine q_do ⟨_, rfl, _, rfl, L, A, dm, dem, rfl, hM3, hG, SqL.of hdm, by omega, hdr, ?_⟩
      intro nd H4 nnd e4 hnd
      have m04 := (m02.ex e3).ex e4
      have src4 := src3.ex e4
      have nnd0 : H' nd = none := ((m02.ex e3).free nnd).resolve_left fun e => by subst e; exact src3.some nnd
      refine q_do ?_
      refine ⟨_, rfl, ?_⟩
      refine ⟨_, _, rfl, rfl, .inr (by decide), ?_⟩
      refine dr_go src4 rfl (fun H1 _ => ev_c) (by decide) (by decide) _ fun r5 H5 hr5 src5 m5 => ?_
      refine ⟨_, _, rfl, rfl, ?_⟩
      refine ⟨sz_of (by show 2 ≤ 100000; decide), fun t1 ht1 => ?_⟩
      refine ⟨sz_of (by show 1 ≤ 100000; decide), fun wa hwa => ?_⟩
      have m05 := m04.trans m5
      have nt1 : H' t1 = none := (m05.free ht1).resolve_left fun e => by subst e; exact src5.some ht1
      have x5 := Ex.new (o := HO.tup [.int 0, .int (((A.n + 1 : Nat) : Int) * 7 + (r5 : Int))]) ht1
      have nwa5 : H5 wa = none := fresh_back x5 hwa
      have nwa0 : H' wa = none := (m05.free nwa5).resolve_left fun e => by subst e; exact src5.some nwa5
      have hwv : (upd (upd H5 t1 (.tup [.int 0, .int (((A.n + 1 : Nat) : Int) * 7 + (r5 : Int))])) wa (.lst [.ref t1])) wa = some (.lst [.ref t1]) := upd_same
      have htv : (upd (upd H5 t1 (.tup [.int 0, .int (((A.n + 1 : Nat) : Int) * 7 + (r5 : Int))])) wa (.lst [.ref t1])) t1 = some (.tup [.int 0, .int (((A.n + 1 : Nat) : Int) * 7 + (r5 : Int))]) := Ex.new hwa _ _ upd_same
      have x6 : Ex H5 (upd (upd H5 t1 (.tup [.int 0, .int (((A.n + 1 : Nat) : Int) * 7 + (r5 : Int))])) wa (.lst [.ref t1])) := x5.trans (Ex.new hwa)
      revert hwv htv x6
      generalize upd (upd H5 t1 (.tup [.int 0, .int (((A.n + 1 : Nat) : Int) * 7 + (r5 : Int))])) wa (.lst [.ref t1]) = H6
      intro hwv htv x6
      generalize hval : ((A.n + 1 : Nat) : Int) * 7 + (r5 : Int) = val at htv
      have m06 := m05.ex x6
      have src6 := src5.ex x6
      have hM6 := (((hM3.ex e4).sm m5 nU).ex x6)
      have hnd6 := x6 _ _ (m5 _ _ hnd (sne nnd0))
      have hdm6 := x6 _ _ (m5 _ _ (e4 _ _ hdm) (sne ndm0))
      have hT6 : Tups H6 [t1] [((0 : Int), val)] := ⟨htv, trivial⟩
      refine q_do ⟨_, rfl, _, rfl, _, rfl, ?_⟩
      refine el_lst (vs := nv []) ea_nil (by show 0 ≤ 100000; decide) H6 (Ex.refl _) _ fun q0 H7 nq0 e7 hq0 => ?_
      refine ⟨L, A, wa, nd, q0, [t1], [((0 : Int), val)], asc A.n (needB A dem), [], rfl, hM6.ex e7, hG, SqL.of (e7 _ _ hwv), hT6.ex e7, by show 1 ≤ 2; decide, SqL.of (e7 _ _ hnd6), SqL.of hq0, hal _, by decide, fun x hx => (mem_asc.mp hx).1, ?_⟩
      intro br H8 nbr e8 hbr
      rw [← barF_asc] at hbr
      have e68 := e7.trans e8
      have m08 := m06.ex e68
      have src8 := src6.ex e68
      have hM8 := hM6.ex e68
      have nbr0 : H' br = none := ((m06.ex e7).free nbr).resolve_left fun e => by subst e; exact (src6.ex e7).some nbr
      have dmnd : dm ≠ nd := ne_of_none hdm nnd
      have ndwa : nd ≠ wa := ne_of_none (m5 _ _ hnd (sne nnd0)) nwa5
      have dmwa : dm ≠ wa := ne_of_none (m5 _ _ (e4 _ _ hdm) (sne ndm0)) nwa5
      have wabr : wa ≠ br := ne_of_none (e7 _ _ hwv) nbr
      have ndbr : nd ≠ br := ne_of_none (e7 _ _ hnd6) nbr
      have dmbr : dm ≠ br := ne_of_none (e7 _ _ hdm6) nbr
      have no : ∀ {p : Addr}, H' p = none → L.ρ p = .no ∧ p ≠ s := fun hp => ⟨hM.no hp, sne hp⟩
      have hBq : ∀ o, barF A [((0 : Int), val)] (needB A dem) [] o = true ↔ (1 ≤ o ∧ o ≤ A.n) ∧ BarP A [((0 : Int), val)] (needB A dem) [] o := fun o => by
        unfold barF
        rw [Bool.and_eq_true, decide_eq_true_iff]
        exact ⟨fun ⟨h1, h2⟩ => ⟨h1, (barB_iff hG (fun x hx => need_rng hG hdr hx) h1).mp h2⟩, fun ⟨h1, h2⟩ => ⟨h1, (barB_iff hG (fun x hx => need_rng hG hdr hx) h1).mpr h2⟩⟩
      have tn : ∀ sz : Int, 0 ≤ sz → _ := fun sz hsz => tree_new (s := sz) hG hTr hZ (v := val) hdd (fun o => needB_iff) hBq (by omega) hsz
      refine grow_end (Pq := fun q => H8 q = none ∨ H' q = none ∧ q ∉ [wa, nd, br, dm]) (ts := [t1]) (dem := dem) (qua := []) (wr := [((0 : Int), val)]) (N := needB A dem) (Bf := barF A [((0 : Int), val)] (needB A dem) []) hM8 hG (fun sz hsz => (tn sz hsz).1) (by omega) src8 ns rfl rfl rfl rfl rfl rfl (by show 10 < 11; decide) (by decide) (by decide) (by decide) ?_ (fun q hq => ?_) (fun b hb => ?_) (fun t ht => ?_) (e68 _ _ hwv) (hT6.ex e68) (e68 _ _ hnd6) hbr (e68 _ _ hdm6) ?_ ?_ ?_
      · simp [ndwa.symm, wabr, dmwa.symm, ndbr, dmnd.symm, dmbr.symm]
      · rcases hq with hq | hq
        · have a1 : wa ≠ q := ne_of_none (e68 _ _ hwv) hq
          have a2 : nd ≠ q := ne_of_none (e68 _ _ hnd6) hq
          have a3 : br ≠ q := ne_of_none hbr hq
          have a4 : dm ≠ q := ne_of_none (e68 _ _ hdm6) hq
          simp [a1.symm, a2.symm, a3.symm, a4.symm]
        · exact hq.2
      · simp only [List.mem_cons, List.mem_nil_iff, or_false] at hb
        rcases hb with rfl | rfl | rfl | rfl
        · exact no nwa0
        · exact no nnd0
        · exact no nbr0
        · exact no ndm0
      · have : t = t1 := by simpa using ht
        subst this
        exact no nt1
      · intro H9 m9 src9 Q2 q2
        refine dr_go src9 rfl (fun H1 _ => ev_c) (by decide) (by decide) _ fun r9 H10 hr9 src10 m10 => ?_
        exact ⟨_, _, rfl, rfl, q2 _ H10 (by omega) src10 m10⟩
      · intro H9 m9 tr9 src9 Q2 q2
        refine el_lst (vs := nv []) ea_nil (by show 0 ≤ 100000; decide) H9 (Ex.refl _) _ fun q H10 nq e10 hq => ?_
        have h8q : H8 q = none := by
          rcases m9.free nq with u | u
          · rcases u with u | ⟨i, u⟩
            · subst u; exact absurd nq src9.some
            · exact absurd nq (tr9 q (by rw [u]; exact fun e => nomatch e))
          · exact u
        have h'q : H' q = none := (m08.free h8q).resolve_left fun e => by subst e; exact src8.some h8q
        exact q2 q H10 hq (.inl h8q) (hM.no h'q) (sne h'q) (src9.ex e10) (Sm.of e10)
      · intro sz qu σ' H9 hsz hσ hMd hqu src9 m9
        have tn := tn sz hsz
        have hqu' : H' qu = none := by
          rcases hqu with h | h
          · exact (m08.free h).resolve_left fun e => by subst e; exact src8.some h
          · exact h.1
        have hin : ∀ b, (L.grow A.n wa nd br dm qu [t1]).ρ b ≠ .no → H b = none := fun b hb => by
          rcases grow_new (H := H') hb (by simp [nwa0, nnd0, nbr0, ndm0, hqu']) (fun t ht => by
            have : t = t1 := by simpa using ht
            subst this
            exact nt1) with h | h
          · exact hL b h
          · exact back h
        refine ⟨L.grow A.n wa nd br dm qu [t1], push A [((0 : Int), val)] sz (needB A dem) (barF A [((0 : Int), val)] (needB A dem) []) dem [], some (.int (i : Int)), some (.int ((A.n + 1 : Nat) : Int)), some (.int (ab : Int)), some (.ref dm), some (.ref nd), some (.ref wa), some (.ref br), (match σ'[10]? with | some x => x | none => none), ?_, ?_, hAc, hG.push tn.1, tn.2.1, tn.2.2, hMd, hin, src9, ?_⟩
        · rcases hσ with rfl | ⟨v, rfl⟩ <;> rfl
        · show A.n + 1 ≤ i + 1
          omega
        · refine Sm.monoN m' ((m08.mono fun b hb => .inl hb).trans m9) fun b hb => ?_
          rcases hb with h | h
          · exact .inl h
          · exact .inr (hL b h)
    · obtain ⟨L, A, x, y, z, t, u, v, a, b, rfl, hAn, hAc, hG, hTr, hZ, hM, hL, src', m'⟩ := p
      exact ⟨_, rfl, k L A H' ⟨by omega, hTr, by omega⟩ hG hM hL src' m'⟩
end
end K27
set_option Elab.async false
set_option linter.all false
set_option maxRecDepth 100000
set_option maxHeartbeats 1000000
/-! K27W9: the rich model, the world. -/
namespace K27
open PySem PySem.Spec PyProof.Rows L2 Evl
local macro_rules | `(tactic| walk_at "rd") => `(tactic| repeat (first | refine ⟨_, _, rfl, rfl, ?_⟩ | refine ⟨_, rfl, ?_⟩ | refine ⟨_, _, _, _, rfl, rfl, SqL.of (by assumption), rfl, ?_⟩ | refine Or.inl ⟨_, rfl, ?_⟩ | refine ⟨Or.inl (by decide), ?_⟩ | refine ⟨(by decide : _ ≠ _), ?_⟩))
section
variable {w : World} {K : PySem.W.Frag} {mg : Str → Option Value} {base : Heap}
/-- a comprehension over a list of numbers whose test draws -/
theorem dc_L {σ : L2.St} {H : Hp} {tl te : TE} {t : TT} {s a : Addr} {j : Nat} {vs : List Nat} {l : List Nat} (src : Src H s) (h : Ev tl σ H (.ref a)) (hx : H a = some (.lst (nv l))) (has : a ≠ s) (hz : l.length ≤ 1000) (hw : ∀ x, wipe ((wipe σ vs).set j (some x)) vs = wipe σ vs)
    (ht : ∀ x, EtD s t ((wipe σ vs).set j (some x)) H (fun _ => True)) (he : ∀ (o : Nat) H1, Ev te ((wipe σ vs).set j (some (.int (o : Int)))) H1 (.int (o : Int))) {Q : VK}
    (q : ∀ p (l' : List Nat) H2, H p = none → H2 p = some (.lst (nv l')) → (∀ x ∈ l', x ∈ l) → l'.length ≤ l.length → Src H2 s → Sm (· = s) H H2 → Q (.ref p) H2) : tLc (iList K tl) (gName j) t te vs σ H Q := by
  refine h H (Ex.refl _) _ fun H1 e1 => ⟨a, rfl, ⟨_, SqL.of (e1 _ _ hx)⟩, fun Dl hD => ?_⟩
  have src1 := src.ex e1
  have nDs : Dl ≠ s := fun e => by subst e; exact src1.some hD
  refine lc_list (xs := nv l) (fun i H' => Src H' s ∧ Sm (· = s) H1 H' ∧ ∃ l' : List Nat, H' Dl = some (.lst (nv l')) ∧ (∀ x ∈ l', x ∈ l) ∧ l'.length ≤ i) ⟨?_, Sm.of (Ex.new hD), [], upd_same, (fun x hx => nomatch hx), Nat.le_refl _⟩ (fun i H' _ p => SqL.of (p.2.1 _ _ (e1 _ _ hx) has)) (fun i x H' hi p => ?_) (fun H' p => ?_)
  · obtain ⟨c0, c1, c2, hc⟩ := src1
    exact ⟨c0, c1, c2, by rw [upd_ne nDs.symm]; exact hc⟩
  · obtain ⟨p2, p3, l', p4, p5, p6⟩ := p
    obtain ⟨o, ho, rfl⟩ := nv_get hi
    have hil : i < l.length := (List.getElem?_eq_some_iff.mp ho).1
    refine ⟨hw _, ?_⟩
    refine ht _ H' (Sm.pre e1 p3) p2 _ ?_
    rintro b H3 _ s3 e3
    refine it2 (fun hb => ?_) (fun hb => ?_)
    · refine he o H3 H3 (Ex.refl _) _ fun H4 e4 => ?_
      have h4 := e4 _ _ (e3 _ _ p4 nDs)
      refine ⟨_, h4, sz_lt (by rw [nv_len]; omega), ?_, ((p3.trans e3).ex e4).upd (.inr hD), l' ++ [o], by rw [upd_same]; simp [nv], fun x hx => ?_, by simp; omega⟩
      · obtain ⟨c0, c1, c2, hc⟩ := s3.ex e4
        exact ⟨c0, c1, c2, by rw [upd_ne nDs.symm]; exact hc⟩
      · rcases List.mem_append.mp hx with hx | hx
        · exact p5 x hx
        · have : x = o := by simpa using hx
          subst this
          exact List.mem_of_getElem? ho
    · exact ⟨s3, p3.trans e3, l', e3 _ _ p4 nDs, p5, by omega⟩
  · obtain ⟨p2, p3, l', p4, p5, p6⟩ := p
    exact q Dl l' H' (fresh_back e1 hD) p4 p5 (by rw [nv_len] at p6; exact p6) p2 (Sm.pre e1 p3)
theorem sc_l_rich : FnScope ["_law_source_here", "_law_most", "_law_cells", "_law_base", "_law_model_here", "_law_turn", "_law_below", "_law_other", "_law_place"] ["_law_source_here", "_law_most", "_law_cells"] (defScope s_l_rich) := ⟨rfl, rfl, rfl, by decide +kernel, rfl, by decide +kernel, by decide +kernel⟩
theorem ok_l_rich (T : Txt K mg) : OkC PP w K mg base CX0 4 ("_law_rich", none) ["_law_source_here", "_law_most", "_law_cells"] spModel :=
  ok0 T.F_l_rich sc_l_rich (fun _ _ _ _ _ _ us hl => match us, hl with | [_, _, _], _ => rfl) (by rintro vs H Q E ⟨s, m, c, rfl, _⟩; rfl) fun f cdv A0 outer s0 H vs Q E hr h => by
    obtain ⟨s, most, cells, rfl, src, hmo, hc1, hc2, k⟩ := h
    refine ⟨_, (pss_cons (ps_setLc (i := 3) (own := [("_law_place", 8)]) (g := gName 8) (by rfl) sc_l_rich.nd rfl rfl (sw_true rfl rfl rfl (by decide +kernel)) (pi_range1 (by rfl) T.z_range (pa_cons (pv 2) pa_nil)) (blkOk_by (by rfl)) (fun _ _ _ _ _ => pg_name (i := 8) sc_l_rich.nd rfl (by first | exact Or.inl rfl | exact Or.inr rfl)) (fun _ _ _ _ _ => pts_nil) (fun _ _ _ _ _ => (pe_op op_sub (pe_c (ok_l_draw T) (hr.mono (by decide)) T.g_l_draw pass0 (pa_cons (pv 0) (pa_cons pe_int pa_nil))) pe_int))) (pss_cons (ps_set (i := 4) sc_l_rich.nd rfl (Or.inl rfl) (pe_lst (pa_cons (pv 3) (pa_cons (pe_lst (pa_cons (pe_lst pa_nil) pa_nil)) (pa_cons (pe_lst (pa_cons pe_int pa_nil)) (pa_cons (pe_lst (pa_cons (pe_lst pa_nil) pa_nil)) (pa_cons (pe_lst (pa_cons (pe_lst pa_nil) pa_nil)) (pa_cons (pe_lst (pa_cons (pe_lst pa_nil) pa_nil)) (pa_cons (pe_lst (pa_cons (pe_lst pa_nil) pa_nil)) pa_nil))))))))) (pss_cons (ps_for PassesOwn.never rfl (pi_range1 (by rfl) T.z_range (pa_cons (pe_callB (call_max2 rfl) (by rfl) T.z_max (by decide +kernel) (pa_cons (pe_c (ok_l_draw T) (hr.mono (by decide)) T.g_l_draw pass0 (pa_cons (pv 0) (pa_cons (pe_op op_add (pv 1) pe_int) pa_nil))) (pa_cons (pe_c (ok_l_draw T) (hr.mono (by decide)) T.g_l_draw pass0 (pa_cons (pv 0) (pa_cons (pe_op op_add (pv 1) pe_int) pa_nil))) pa_nil))) pa_nil)) (pg_name (i := 5) sc_l_rich.nd rfl (Or.inl rfl)) (pss_cons (ps_set (i := 6) sc_l_rich.nd rfl (Or.inl rfl) (pe_lst pa_nil)) (pss_cons (ps_for PassesOwn.never rfl (pi_range2 (by rfl) T.z_range (pa_cons pe_int (pa_cons (pe_callB (call_lenK (K := K)) (by rfl) T.z_len (by decide +kernel) (pa_cons (pe_ix (ix_listK (K := K)) (pv 4) pe_int (fun _ _ => rfl)) pa_nil)) pa_nil))) (pg_name (i := 7) sc_l_rich.nd rfl (Or.inl rfl)) (pss_one (ps_if (PW.pt (pw_and (pt_cmpR op_gt (pe_c (ok_l_draw T) (hr.mono (by decide)) T.g_l_draw pass0 (pa_cons (pv 0) (pa_cons pe_int pa_nil))) pe_int (nomark _)) (pw_and1 (pt_val (pe_c (ok_l_fits T) (hr.mono (by decide)) T.g_l_fits pass0 (pa_cons (pv 4) (pa_cons (pv 6) (pa_cons (pv 7) pa_nil)))))))) (pss_one (ps_expr (pe_appK (K := K) (pv 6) (pa_cons (pv 7) pa_nil)))) pss_nil))) (pss_one (ps_expr (pe_c (ok_l_put T) (hr.mono (by decide)) T.g_l_put pass0 (pa_cons (pv 0) (pa_cons (pv 4) (pa_cons (pv 2) (pa_cons (pe_lc (own := [("_law_other", 7)]) (g := gName 7) (by rfl) sc_l_rich.nd (pi_listK (K := K) (pv 6)) (blkOk_by (by rfl)) (fun _ _ _ _ _ => pg_name (i := 7) sc_l_rich.nd rfl (by first | exact Or.inl rfl | exact Or.inr rfl)) (fun _ _ _ _ _ => (pts_one (pt_cmpR op_eq (pe_c (ok_l_draw T) (hr.mono (by decide)) T.g_l_draw pass0 (pa_cons (pv 0) (pa_cons pe_int pa_nil))) pe_int (nomark _)))) (fun _ _ _ _ _ => (pv 7))) pa_nil)))))))))) (pss_one (ps_ret (pv 4)))))), ?_⟩
    refine q_do ?_
    refine dc_base (s := s) (n := cells) src (ea_cons (ev_var rfl) ea_nil) (by omega) (fun _ => rfl) (fun x => ed_val rfl) ?_
    intro b0 xs H1 nb hb hx src1 m1
    refine q_do (init_model (fun b H2 => b = b0 ∧ H2 = H1) hc1 hc2 (fun Q0 q0 => ⟨_, rfl, q0 b0 xs H1 hb hx ⟨rfl, rfl⟩⟩) ?_)
    rintro _ _ L H2 ⟨rfl, rfl⟩ e2 hM hL
    have m2 := m1.ex e2
    have src2 := src1.ex e2
    rename_i b0 H1
    have nb0 : H b0 = none := nb
    have fr : ∀ {b}, H1 b = none → H b = none := fun hp => (m1.free hp).resolve_left fun e => by subst e; exact src1.some hp
    refine q_forD (s := s) (m := (most : Int) + 1) ?_ (by omega) fun r H3 hr2 src3 m3 => ?_
    · intro Q0 q0
      refine dr_go src2 rfl (fun H1 _ => ev_op (ev_var rfl) ev_c rv_I0) (by omega) (by omega) _ fun ra H3 hra src3 m3 => ?_
      refine dr_go src3 rfl (fun H1 _ => ev_op (ev_var rfl) ev_c rv_I0) (by omega) (by omega) _ fun rb H4 hrb src4 m4 => ?_
      refine ⟨_, _, rfl, ?_⟩
      by_cases hab : (rb : Int) > (ra : Int)
      · rw [if_pos hab]
        exact q0 rb H4 hrb src4 (m3.trans m4)
      · rw [if_neg hab]
        exact q0 ra H4 hra src4 (m3.trans m4)
    refine ⟨fun i σ H' => ∃ L A x y z, σ = [some (.ref s), some (.int (most : Int)), some (.int (cells : Int)), some (.ref b0), some (.ref L.m), x, y, z, none] ∧ A.n ≤ i ∧ A.cells = cells ∧ Good A ∧ Md H' L A ∧ (∀ b, L.ρ b ≠ .no → H b = none) ∧ Src H' s ∧ Sm (· = s) H H', ?_, fun i σ H' hi p => ?_, fun σ H' p => ?_⟩
    · have hL' : ∀ b, L.ρ b ≠ .no → H b = none := fun b hb => by
        rcases hL b hb with h | h
        · exact fr h
        · rw [h]; exact nb0
      exact ⟨L, ab0 cells, _, _, _, rfl, Nat.le_refl _, rfl, good0 cells, hM.sm m3 fun b e => by rw [e]; exact not_src src hL', hL', src3, m2.trans m3⟩
    · obtain ⟨L, A, x, y, z, rfl, hAn, hAc, hG, hM, hL, src', m'⟩ := p
      have ns : L.ρ s = .no := not_src src hL
      have nU : ∀ b, b = s → L.ρ b = .no := fun b e => by rw [e]; exact ns
      have sne : ∀ {p : Addr}, H' p = none → p ≠ s := fun hp e => by subst e; exact src'.some hp
      have back : ∀ {p : Addr}, H' p = none → H p = none := fun hp => (m'.free hp).resolve_left fun e => by subst e; exact src'.some hp
      refine q_asgL (xs := nv []) (el_lst ea_nil (by show 0 ≤ 100000; decide)) fun bl H4 nbl e4 hbl => ?_
      have src4 := src'.ex e4
      refine q_forR2 (lo := 1) (n := (A.n : Int) + 1) (ea_cons ev_c (ea_cons (ev_len1 (hM.ex e4) (ev_var rfl)) ea_nil)) ⟨by omega, by omega, by omega, by omega⟩
        (fun i2 σ H5 => ∃ z l, σ = [some (.ref s), some (.int (most : Int)), some (.int (cells : Int)), some (.ref b0), some (.ref L.m), some (.int (i : Int)), some (.ref bl), z, none] ∧ Src H5 s ∧ Sm (· = s) H' H5 ∧ H5 bl = some (.lst (nv l)) ∧ (∀ x ∈ l, 1 ≤ x ∧ x ≤ i2) ∧ l.length ≤ i2 ∧ IsVer A (fun x => decide (x ∈ l)))
        (fun H5 e5 => ⟨_, [], rfl, src4.ex e5, (Sm.of e4).ex e5, e5 _ _ hbl, (fun x hx => nomatch hx), Nat.le_refl _, ⟨fun k o h => by simp at h, fun k o h => by simp at h⟩⟩) (fun i2 σ H5 hi2 p => ?_) (fun σ H5 p => ?_)
      · obtain ⟨z, l, rfl, src5, m5, hl5, hlr, hll, hV⟩ := p
        have ec : (1 : Int) + (i2 : Int) = ((i2 + 1 : Nat) : Int) := by omega
        rw [ec]
        have hi1 : i2 + 1 ≤ A.n := by omega
        have keep : ∀ H6, Src H6 s → Sm (· = s) H' H6 → H6 bl = some (.lst (nv l)) → ∃ z l, [some (V.ref s), some (V.int (most : Int)), some (V.int (cells : Int)), some (V.ref b0), some (V.ref L.m), some (V.int (i : Int)), some (V.ref bl), some (V.int ((i2 + 1 : Nat) : Int)), none] = [some (V.ref s), some (V.int (most : Int)), some (V.int (cells : Int)), some (V.ref b0), some (V.ref L.m), some (V.int (i : Int)), some (V.ref bl), z, none] ∧ Src H6 s ∧ Sm (· = s) H' H6 ∧ H6 bl = some (.lst (nv l)) ∧ (∀ x ∈ l, 1 ≤ x ∧ x ≤ i2 + 1) ∧ l.length ≤ i2 + 1 ∧ IsVer A (fun x => decide (x ∈ l)) :=
          fun H6 s6 m6 h6 => ⟨_, l, rfl, s6, m6, h6, fun x hx => ⟨(hlr x hx).1, by have := (hlr x hx).2; omega⟩, by omega, hV⟩
        refine s_ifD ?_
        refine (ed_draw rfl (fun H1 _ => ev_c) (by decide) (by decide)).gt0 H5 (Sm.refl _ _) src5 _ ?_
        rintro b H6 _ src6 e6
        have m6 := m5.trans e6
        have hl6 := e6 _ _ hl5 (sne nbl)
        refine it2 (fun hb => ?_) (fun hb => ?_)
        · refine ⟨_, rfl, _, rfl, _, rfl, L, A, bl, l, i2 + 1, rfl, hM.sm m6 nU, .inl (SqL.of hl6), hi1, ?_⟩
          intro H7 e7
          refine ⟨_, rfl, it2 (fun hf => ?_) (fun hf => ?_)⟩
          · have hl7 := e7 _ _ hl6
            refine s_app (xs := nv l) hl7 (ev_var rfl) (ev_var rfl) (by rw [nv_len]; omega) fun H8 e8 => ?_
            have nbs : bl ≠ s := sne nbl
            have src8 := (src6.ex e7).ex e8
            refine ⟨_, l ++ [i2 + 1], rfl, ?_, (((m6.ex e7).ex e8).upd (.inr nbl)), by rw [upd_same]; simp [nv], fun x hx => ?_, by simp; omega, ?_⟩
            · obtain ⟨c0, c1, c2, hc⟩ := src8
              exact ⟨c0, c1, c2, by rw [upd_ne nbs.symm]; exact hc⟩
            · rcases List.mem_append.mp hx with hx | hx
              · exact ⟨(hlr x hx).1, by have := (hlr x hx).2; omega⟩
              · have : x = i2 + 1 := by simpa using hx
                omega
            · have ff := (fits_iff hG).mp hf
              refine ⟨fun k o hk ho => ?_, fun k o hk ho => ?_⟩
              · rcases List.mem_append.mp (of_decide_eq_true hk) with h | h
                · exact decide_eq_true (List.mem_append.mpr (.inl (of_decide_eq_true (hV.clo k o (decide_eq_true h) ho))))
                · have : k = i2 + 1 := by simpa using h
                  subst this
                  exact decide_eq_true (List.mem_append.mpr (.inl (ff.1 o ho)))
              · have nb2 : ∀ y, y ∈ l → A.B (i2 + 1) y = false := fun y hy => by
                  cases q : A.B (i2 + 1) y with
                  | false => rfl
                  | true => exact absurd hy (ff.2 y q)
                rcases List.mem_append.mp (of_decide_eq_true hk) with h | h
                · rcases List.mem_append.mp (of_decide_eq_true ho) with h' | h'
                  · exact hV.cf k o (decide_eq_true h) (decide_eq_true h')
                  · have : o = i2 + 1 := by simpa using h'
                    subst this
                    rw [hG.sym]
                    exact nb2 k h
                · have : k = i2 + 1 := by simpa using h
                  subst this
                  rcases List.mem_append.mp (of_decide_eq_true ho) with h' | h'
                  · exact nb2 o h'
                  · have : o = i2 + 1 := by simpa using h'
                    subst this
                    exact hG.irr _
          · exact keep H7 (src6.ex e7) (m6.ex e7) (e7 _ _ hl6)
        · refine it2 (fun h => by cases h) (fun _ => ?_)
          exact keep H6 src6 m6 hl6
      · obtain ⟨z, l, rfl, src5, m5, hl5, hlr, hll, hV⟩ := p
        rw [show ((A.n : Int) + 1 - 1).toNat = A.n by omega] at hlr hll
        refine q_call4 rfl rfl rfl ?_
        refine dc_L (s := s) (l := l) src5 (ev_var rfl) hl5 (sne nbl) (by omega) (fun _ => rfl) (fun x => (ed_draw rfl (fun H1 _ => ev_c) (by decide) (by decide)).eq0) (fun o H1 => ev_var rfl) ?_
        intro dm dem H6 ndm hdm hdem hdl src6 m6
        have m06 := m5.trans m6
        have ndm' : H' dm = none := (m5.free ndm).resolve_left fun e => by subst e; exact src5.some ndm
        refine ⟨s, dm, L, A, dem, _, by rw [hAc], src6, ns, hM.sm m06 nU, hG, by omega, hdm, hM.no ndm', sne ndm', by omega, fun d hd => hlr d (hdem d hd), hV, fun d hd => decide_eq_true (hdem d hd), ?_⟩
        intro A' L' H7 ag hG' hm hM' hL' src7 m7
        refine ⟨L', A', _, _, _, by rw [hm], by rw [ag.n]; omega, by rw [ag.cells]; exact hAc, hG', hM', fun b hb => ?_, src7, ?_⟩
        · rcases hL' b hb with h | h | h
          · exact hL b h
          · exact back ((m06.free h).resolve_left fun e => by subst e; exact src6.some h)
          · rw [h]; exact back ndm'
        · refine Sm.monoN m' ((m06.mono fun b hb => .inl hb).trans m7) fun b hb => ?_
          rcases hb with h | h
          · exact .inl h
          · exact .inr (hL b h)
    · obtain ⟨L, A, x, y, z, rfl, hAn, hAc, hG, hM, hL, src', m'⟩ := p
      exact ⟨_, rfl, k L A H' (by omega) hG hM hL src' m'⟩
theorem sc_l_world : FnScope ["_law_script", "_law_source_here", "_law_most"] ["_law_script", "_law_source_here", "_law_most"] (defScope s_l_world) := ⟨rfl, rfl, rfl, by decide +kernel, rfl, by decide +kernel, by decide +kernel⟩
def spWorld (K : PySem.W.Frag) : Sp := fun vs H Q _ => ∃ (a s : Addr) (ns : List Int) (most : Nat), vs = [.ref a, .ref s, .int (most : Int)] ∧ SqL K H a (ns.map V.int) ∧ Src H s ∧ (∀ H', Sm (· = s) H H' → SqL K H' a (ns.map V.int)) ∧ most ≤ 25 ∧ RetM s (fun A => A.n ≤ most) H Q
theorem ok_l_world (T : Txt K mg) : OkC PP w K mg base CX0 5 ("_law_world", none) ["_law_script", "_law_source_here", "_law_most"] (spWorld K) :=
  ok0 T.F_l_world sc_l_world (fun _ _ _ _ _ _ us hl => match us, hl with | [_, _, _], _ => rfl) (by rintro vs H Q E ⟨a, s, ns, m, rfl, _⟩; rfl) fun f cdv A0 outer s0 H vs Q E hr h => by
    obtain ⟨a, s, ns, most, rfl, hsq, src, hkeep, hmo, k⟩ := h
    refine ⟨_, (pss_cons (ps_if (pt_cmpR op_eq (pe_c (ok_l_draw T) (hr.mono (by decide)) T.g_l_draw pass0 (pa_cons (pv 1) (pa_cons pe_int pa_nil))) pe_int (nomark _)) (pss_one (ps_ret (pe_c (ok_l_model T) (hr.mono (by decide)) T.g_l_model pass0 (pa_cons (pe_c (ok_l_source T) (hr.mono (by decide)) T.g_l_source pass0 (pa_cons (pv 0) (pa_cons pe_int pa_nil))) (pa_cons (pv 2) (pa_cons (pe_op op_add pe_int (pe_c (ok_l_draw T) (hr.mono (by decide)) T.g_l_draw pass0 (pa_cons (pv 1) (pa_cons pe_int pa_nil)))) pa_nil)))))) pss_nil) (pss_one (ps_ret (pe_c (ok_l_rich T) (hr.mono (by decide)) T.g_l_rich pass0 (pa_cons (pe_c (ok_l_source T) (hr.mono (by decide)) T.g_l_source pass0 (pa_cons (pv 0) (pa_cons pe_int pa_nil))) (pa_cons (pv 2) (pa_cons (pe_ix (ix_listK (K := K)) (pe_lst (pa_cons pe_int (pa_cons pe_int (pa_cons pe_int (pa_cons pe_int pa_nil))))) (pe_c (ok_l_draw T) (hr.mono (by decide)) T.g_l_draw pass0 (pa_cons (pv 1) (pa_cons pe_int pa_nil))) (fun _ _ => rfl)) pa_nil))))))), ?_⟩
    have fin : ∀ {s2 : Addr} {H1 H2 H3 : Hp}, H1 s2 = none → Sm (· = s) H H1 → Src H1 s → Ex H1 H2 → Sm (· = s) H2 H3 → Src H3 s → Src H2 s2 → RetM s2 (fun A => A.n ≤ most) H3 Q := fun {s2 H1 H2 H3} n2 m1 src1 e2 m3 src3 src2 => by
      intro L A H' hP hG hM hL s' m'
      have nes : s ≠ s2 := fun e => by subst e; exact src1.some n2
      have ns2 : H s2 = none := (m1.free n2).resolve_left fun e => nes e.symm
      have m03 := (m1.ex e2).trans m3
      refine k L A H' hP hG hM (fun b hb => ?_) (src3.sm m' nes) (Sm.monoN m03 m' fun b hb => .inr (by rw [hb]; exact ns2))
      exact (m03.free (hL b hb)).resolve_left fun e => by subst e; exact src3.some (hL b hb)
    refine q_ifD ?_
    refine (ed_draw rfl (fun H1 _ => ev_c) (by decide) (by decide)).eq0 H (Sm.refl _ _) src _ ?_
    rintro b H1 _ src1 m1
    refine it2 (fun hb => ?_) (fun hb => ?_)
    · refine ⟨_, rfl, a, ns, 1, rfl, hkeep H1 m1, ?_⟩
      intro s2 H2 n2 e2 src2
      refine ⟨_, rfl, ?_⟩
      refine dr_go (src1.ex e2) rfl (fun H1 _ => ev_c) (by decide) (by decide) _ fun r H3 hr3 src3 m3 => ?_
      have nes : s2 ≠ s := fun e => by subst e; exact src1.some n2
      refine ⟨_, _, rfl, rfl, s2, most, r + 1, ?_, src2.sm m3 nes, hmo, by omega, by omega, fin n2 m1 src1 e2 m3 src3 src2⟩
      show [V.ref s2, V.int (most : Int), V.int (1 + (r : Int))] = [V.ref s2, V.int (most : Int), V.int ((r + 1 : Nat) : Int)]
      rw [show (1 : Int) + (r : Int) = ((r + 1 : Nat) : Int) by omega]
    · refine ⟨_, rfl, a, ns, 1, rfl, hkeep H1 m1, ?_⟩
      intro s2 H2 n2 e2 src2
      refine ⟨_, rfl, ?_⟩
      refine cons_go (op_go ?_)
      refine el_lst (vs := [.int 2, .int 5, .int 12, .int 20]) (ea_cons ev_c (ea_cons ev_c (ea_cons ev_c (ea_cons ev_c ea_nil)))) (by show 4 ≤ 100000; decide) H2 (Ex.refl _) _ fun lp H3 nlp e3 hlp => ?_
      refine dr_go ((src1.ex e2).ex e3) rfl (fun H1 _ => ev_c) (by decide) (by decide) _ fun r H4 hr4 src4 m4 => ?_
      have nes : s2 ≠ s := fun e => by subst e; exact src1.some n2
      have nlps : lp ≠ s := fun e => by subst e; exact (src1.ex e2).some nlp
      have hlp4 := m4 _ _ hlp nlps
      have hcs : ∃ c : Nat, ([V.int 2, V.int 5, V.int 12, V.int 20] : List V)[r]? = some (V.int (c : Int)) ∧ 1 ≤ c ∧ c ≤ 20 := by
        have : r = 0 ∨ r = 1 ∨ r = 2 ∨ r = 3 := by omega
        rcases this with h | h | h | h <;> subst h
        · exact ⟨2, rfl, by decide, by decide⟩
        · exact ⟨5, rfl, by decide, by decide⟩
        · exact ⟨12, rfl, by decide, by decide⟩
        · exact ⟨20, rfl, by decide, by decide⟩
      obtain ⟨c, hc, c1, c2⟩ := hcs
      refine ⟨lp, _, _, .int (c : Int), rfl, rfl, SqL.of hlp4, atI_nat hc, ?_⟩
      exact ⟨s2, most, c, rfl, (src2.ex e3).sm m4 nes, hmo, c1, c2, fin n2 m1 src1 (e2.trans e3) m4 src4 (src2.ex e3)⟩
end
end K27
set_option Elab.async false
set_option linter.all false
set_option maxRecDepth 100000
set_option maxHeartbeats 1000000
/-! K27B1: the book read. -/
namespace K27
open PySem PySem.Spec PyProof.Rows L2 Evl
local macro_rules | `(tactic| walk_at "rd") => `(tactic| repeat (first | refine ⟨_, _, rfl, rfl, ?_⟩ | refine ⟨_, rfl, ?_⟩ | refine ⟨_, _, _, _, rfl, rfl, SqL.of (by assumption), rfl, ?_⟩ | refine Or.inl ⟨_, rfl, ?_⟩ | refine ⟨Or.inl (by decide), ?_⟩ | refine ⟨(by decide : _ ≠ _), ?_⟩))
section
variable {w : World} {K : PySem.W.Frag} {mg : Str → Option Value} {base : Heap}
theorem sc_least_number : FnScope ["mask"] ["mask"] (defScope s_least_number) := ⟨rfl, rfl, rfl, by decide +kernel, rfl, by decide +kernel, by decide +kernel⟩
def spLeast : Sp := fun vs H Q _ => ∃ m k : Nat, vs = [.int (m : Int)] ∧ m.testBit k = true ∧ (∀ i, i < k → m.testBit i = false) ∧ RetV (.int (k : Int)) H Q
theorem ok_least_number (T : Txt K mg) : OkC PP w K mg base CX0 1 ("least_number", none) ["mask"] spLeast :=
  ok0 T.F_least_number sc_least_number (fun _ _ _ _ _ _ us hl => match us, hl with | [_], _ => rfl) (by rintro vs H Q E ⟨m, k, rfl, _⟩; rfl) fun f cdv A0 outer s0 H vs Q E hr h => by
    obtain ⟨m, k, rfl, hk, hl, q⟩ := h
    refine ⟨_, (pss_one (ps_ret (pe_op op_sub (pe_bits (pe_op op_and (pv 0) (pe_un un_neg (pv 0)))) pe_int))), ?_⟩
    obtain ⟨k', h1, h2, h3⟩ := bLow m (ne_zero_of_bit hk)
    have e : k' = k := by
      rcases Nat.lt_trichotomy k k' with h | h | h
      · have := h2 k h
        rw [hk] at this; cases this
      · exact h.symm
      · have := hl k' h
        rw [h1] at this; cases this
    subst e
    refine s_ret (ev_is (ev_op (ev_bits (ev_op (ev_var rfl) (ev_un (ev_var rfl) ru_neg) rv_I0)) ev_c rv_I0) ?_) q
    show V.int (((Builtin.Int.intBits (Builtin.bitAnd (m : Int) (-(m : Int))) : Nat) : Int) - 1) = _
    rw [h3, bLen_pow]
    congr 1
    omega
theorem sc_Bmask_of : FnScope ["self", "numbers", "mask", "number"] ["self", "numbers"] (defScope s_Bmask_of) := ⟨rfl, rfl, rfl, by decide +kernel, rfl, by decide +kernel, by decide +kernel⟩
def spMaskOf (K : PySem.W.Frag) : Sp := fun vs H Q _ => ∃ (p : Addr) (a : Addr) (l : List Nat), vs = [.ref p, .ref a] ∧ SqT K H a (nv l) ∧ (∀ x ∈ l, x ≤ 1000) ∧ ∀ m : Nat, Bt m (fun o => decide (o ∈ l)) → RetV (.int (m : Int)) H Q
theorem ok_Bmask_of (T : Txt K mg) : OkC PP w K mg base CX0 1 ("Book", some "mask_of") ["self", "numbers"] (spMaskOf K) :=
  ok0 T.F_Bmask_of sc_Bmask_of (fun _ _ _ _ _ _ us hl => match us, hl with | [_, _], _ => rfl) (by rintro vs H Q E ⟨p, a, l, rfl, _⟩; rfl) fun f cdv A0 outer s0 H vs Q E hr h => by
    obtain ⟨p, a, l, rfl, ha, hl, k⟩ := h
    refine ⟨_, (pss_cons (ps_set (i := 2) sc_Bmask_of.nd rfl (Or.inl rfl) pe_int) (pss_cons (ps_for PassesOwn.never rfl (pi_tupK (K := K) (pv 1)) (pg_name (i := 3) sc_Bmask_of.nd rfl (Or.inl rfl)) (pss_one (ps_set (i := 2) sc_Bmask_of.nd rfl (Or.inl rfl) (pe_op op_or (pv 2) (pe_op op_oneShl pe_int (pv 3)))))) (pss_one (ps_ret (pv 2))))), ?_⟩
    refine q_asg (v := .int ((0 : Nat) : Int)) ev_c fun H1 e1 => ?_
    refine q_forT (xs := nv l) (ev_var rfl) (ex_t e1 ha) (fun i σ H' => ∃ (m : Nat) (y : Option V), σ = [some (.ref p), some (.ref a), some (.int (m : Int)), y] ∧ Ex H H' ∧ Bt m (fun o => decide (o ∈ l.take i))) (fun H2 e2 => ⟨0, _, rfl, e1.trans e2, bits_zero.congr fun i => by simp⟩) (fun i σ H' _ ⟨m, y, _, e, _⟩ => ex_t e ha) (fun i x σ H' hx => ?_) (fun σ H' => ?_)
    · rintro ⟨m, y, rfl, e, hm⟩
      obtain ⟨n, hn, rfl⟩ := nv_get hx
      refine s_asg (ev_op (ev_var rfl) (ev_op ev_c (ev_var rfl) (rv_shl (hl n (List.mem_of_getElem? hn)))) (rv_I0 (g := fun i j => .int (Builtin.bitOr i j)))) fun H2 e2 => ?_
      refine ⟨m ||| 2 ^ n, some (.int (n : Int)), ?_, e.trans e2, (bits_or hm (bits_one n)).congr fun i => ?_⟩
      · show [some (V.ref p), some (V.ref a), some (V.int (Builtin.bitOr (m : Int) ((2 ^ n : Nat) : Int))), some (V.int (n : Int))] = _
        rw [bOr]
      · rw [List.take_succ, hn]
        by_cases h : n = i
        · simp [h]
        · have : ¬ i = n := fun e => h e.symm
          simp [h, this]
    · rintro ⟨m, y, rfl, e, hm⟩
      rw [nv_len, List.take_length] at hm
      exact s_ret (ev_var rfl) fun H2 e2 => k m hm _ (e.trans e2)
theorem sc_Bcheck_number : FnScope ["self", "number"] ["self", "number"] (defScope s_Bcheck_number) := ⟨rfl, rfl, rfl, by decide +kernel, rfl, by decide +kernel, by decide +kernel⟩
theorem BkN.ex {H H' : Hp} {a l : Addr} {xs : List V} (h : BkN K H a l xs) (e : Ex H H') : BkN K H' a l xs := by
  obtain ⟨dx, fs, h1, h2, h3⟩ := h
  exact ⟨dx, fs, e _ _ h1, h2, e _ _ h3⟩
def spCheck (K : PySem.W.Frag) : Sp := fun vs H Q _ => ∃ (a l : Addr) (xs : List V) (n : Nat), vs = [.ref a, .int (n : Int)] ∧ BkN K H a l xs ∧ xs.length ≤ 1000 ∧ 1 ≤ n ∧ n ≤ xs.length ∧ RetV .non H Q
theorem ev_nums {σ : L2.St} {H : Hp} {te : TE} {a l : Addr} {xs : List V} (T : Txt K mg) (h : Ev te σ H (.ref a)) (hb : BkN K H a l xs) : Ev (tFld K te "_numbers") σ H (.ref l) := by
  obtain ⟨dx, fs, h1, h2, h3⟩ := hb
  exact ev_fld h h1 T.cl T.na_numbers h2
theorem et_chain {σ : L2.St} {H : Hp} {ta tb tc : TE} {g g' : Int → Int → Bool} {a b c : Int} (ha : Ev ta σ H (.int a)) (hb : Ev tb σ H (.int b)) (hc : Ev tc σ H (.int c)) : EvT (tTest (tChain (rI0 fun i j => .bl (g i j)) (rI0 fun i j => .bl (g' i j)) ta tb tc)) σ H (g a b && g' b c) := et_test fun H1 e Q q =>
  ha H1 e _ fun H2 e2 => hb H2 (e.trans e2) _ fun H3 e3 => ⟨a, b, rfl, rfl, _, rfl, by
    cases hg : g a b with
    | true =>
      refine iteT ?_
      refine hc H3 ((e.trans e2).trans e3) _ fun H4 e4 => ⟨b, c, rfl, rfl, ?_⟩
      have := q H4 ((e2.trans e3).trans e4)
      rw [hg] at this
      exact this
    | false =>
      refine iteF ?_
      have := q H3 (e2.trans e3)
      rw [hg] at this
      exact this⟩
theorem ok_Bcheck_number (T : Txt K mg) : OkC PP w K mg base CX0 1 ("Book", some "check_number") ["self", "number"] (spCheck K) :=
  ok0 T.F_Bcheck_number sc_Bcheck_number (fun _ _ _ _ _ _ us hl => match us, hl with | [_, _], _ => rfl) (by rintro vs H Q E ⟨a, l, xs, n, rfl, _⟩; rfl) fun f cdv A0 outer s0 H vs Q E hr h => by
    obtain ⟨a, l, xs, n, rfl, hb, hz, h1, h2, k⟩ := h
    refine ⟨_, (pss_one (ps_if (pt_not (pt_chain op_le op_le pe_int (pv 1) (pe_callB (call_lenK (K := K)) (by rfl) T.z_len (by decide +kernel) (pa_cons (pe_fldK (K := K) (pv 0) rfl) pa_nil)))) (pss_one ps_never) pss_nil)), ?_⟩
    have hb' := hb
    obtain ⟨dx, fs, q1, q2, q3⟩ := hb'
    refine s_when (b := false) (et_is (et_not (et_chain ev_c (ev_var rfl) (ev_len (ev_nums T (ev_var rfl) hb) (SqL.of q3)))) ?_) (fun h => by cases h) (fun _ H1 e1 => k H1 e1)
    rw [decide_eq_true (by omega), decide_eq_true (by omega)]
    rfl
theorem sc_Bneeds_mask : FnScope ["self", "number"] ["self", "number"] (defScope s_Bneeds_mask) := ⟨rfl, rfl, rfl, by decide +kernel, rfl, by decide +kernel, by decide +kernel⟩
theorem sc_Bbars_mask : FnScope ["self", "number"] ["self", "number"] (defScope s_Bbars_mask) := ⟨rfl, rfl, rfl, by decide +kernel, rfl, by decide +kernel, by decide +kernel⟩
def spMask (K : PySem.W.Frag) (nb : Bool) : Sp := fun vs H Q _ => ∃ (Y : BLay) (A : Ab) (j : Nat) (fN fB fW : Nat → Nat) (n : Nat), vs = [.ref Y.p, .int (n : Int)] ∧ Bk K H Y A j fN fB fW ∧ 1 ≤ n ∧ n ≤ j ∧ RetV (.int ((if nb then fN n else fB n : Nat) : Int)) H Q
theorem q_dropC {σ : L2.St} {H : Hp} {te : TE} {v : V} {D : Ends} {tz : TS} (h : Ev te σ H v) (k : ∀ H1, Ex H H1 → tz D σ H1) : tSeq (tDrop te) tz D σ H := q_drop h k
theorem ev_check {σ : L2.St} {H : Hp} {to te : TE} {E : XK} {Y : BLay} {A : Ab} {j n : Nat} {fN fB fW : Nat → Nat} (ho : Ev to σ H (.ref Y.p)) (he : Ev te σ H (.int (n : Int))) (hB : Bk K H Y A j fN fB fW) (h1 : 1 ≤ n) (h2 : n ≤ j) : Ev (tMeth (He.ga K "Book") "check_number" (spCheck K) [] E to (tCons te tNil)) σ H .non :=
  ev_meth ho hB.p rfl (ea_cons he ea_nil) fun H1 e1 Q q E => ⟨Y.p, Y.ln, _, n, rfl, hB.nums.ex e1, by rw [nv_len]; simp; have := hB.jn; have := hB.nmax; omega, h1, by rw [nv_len]; simp; exact h2, fun H2 e2 => q H2 e2⟩
theorem nv_at {n j : Nat} {f : Nat → Nat} (h : n < j) : atI (nv ((List.range j).map f)) (n : Int) = some (.int ((f n : Nat) : Int)) := atI_nat (by unfold nv; rw [List.getElem?_map, range_get f h]; rfl)
theorem ok_Bneeds_mask (T : Txt K mg) : OkC PP w K mg base CX0 2 ("Book", some "needs_mask") ["self", "number"] (spMask K true) :=
  ok0 T.F_Bneeds_mask sc_Bneeds_mask (fun _ _ _ _ _ _ us hl => match us, hl with | [_, _], _ => rfl) (by rintro vs H Q E ⟨Y, A, j, fN, fB, fW, n, rfl, _⟩; rfl) fun f cdv A0 outer s0 H vs Q E hr h => by
    obtain ⟨Y, A, j, fN, fB, fW, n, rfl, hB, h1, h2, k⟩ := h
    refine ⟨_, (pss_cons (ps_expr (pe_m T T.me_check_number (ok_Bcheck_number T) (hr.mono (by decide)) pass0 (pv 0) (pa_cons (pv 1) pa_nil))) (pss_one (ps_ret (pe_ix (ix_listK (K := K)) (pe_fldK (K := K) (pv 0) rfl) (pv 1) (fun _ _ => rfl))))), ?_⟩
    refine q_dropC (ev_check (ev_var rfl) (ev_var rfl) hB h1 h2) fun H1 e1 => ?_
    have hB1 := hB.ex e1
    exact s_ret (ev_op (ev_fld (ev_var rfl) hB1.p T.cl T.na_needs rfl) (ev_var rfl) (rv_ixL (SqL.of hB1.e) (nv_at (by omega)))) fun H2 e2 => k H2 (e1.trans e2)
theorem ok_Bbars_mask (T : Txt K mg) : OkC PP w K mg base CX0 2 ("Book", some "bars_mask") ["self", "number"] (spMask K false) :=
  ok0 T.F_Bbars_mask sc_Bbars_mask (fun _ _ _ _ _ _ us hl => match us, hl with | [_, _], _ => rfl) (by rintro vs H Q E ⟨Y, A, j, fN, fB, fW, n, rfl, _⟩; rfl) fun f cdv A0 outer s0 H vs Q E hr h => by
    obtain ⟨Y, A, j, fN, fB, fW, n, rfl, hB, h1, h2, k⟩ := h
    refine ⟨_, (pss_cons (ps_expr (pe_m T T.me_check_number (ok_Bcheck_number T) (hr.mono (by decide)) pass0 (pv 0) (pa_cons (pv 1) pa_nil))) (pss_one (ps_ret (pe_ix (ix_listK (K := K)) (pe_fldK (K := K) (pv 0) rfl) (pv 1) (fun _ _ => rfl))))), ?_⟩
    refine q_dropC (ev_check (ev_var rfl) (ev_var rfl) hB h1 h2) fun H1 e1 => ?_
    have hB1 := hB.ex e1
    exact s_ret (ev_op (ev_fld (ev_var rfl) hB1.p T.cl T.na_bars rfl) (ev_var rfl) (rv_ixL (SqL.of hB1.b) (nv_at (by omega)))) fun H2 e2 => k H2 (e1.trans e2)
theorem sc_Bmembers : FnScope ["self", "mask", "number"] ["self", "mask"] (defScope s_Bmembers) := ⟨rfl, rfl, rfl, by decide +kernel, rfl, by decide +kernel, by decide +kernel⟩
def spMembers (K : PySem.W.Frag) : Sp := fun vs H Q _ => ∃ (a l : Addr) (j m : Nat), vs = [.ref a, .int (m : Int)] ∧ BkN K H a l (nv (List.range' 1 j)) ∧ j ≤ 1000 ∧ RetU (nv (asc j (fun o => m.testBit o))) H Q
theorem ok_Bmembers (T : Txt K mg) : OkC PP w K mg base CX0 1 ("Book", some "_members") ["self", "mask"] (spMembers K) :=
  ok0 T.F_Bmembers sc_Bmembers (fun _ _ _ _ _ _ us hl => match us, hl with | [_, _], _ => rfl) (by rintro vs H Q E ⟨a, l, j, m, rfl, _⟩; rfl) fun f cdv A0 outer s0 H vs Q E hr h => by
    obtain ⟨a, l, j, m, rfl, hb, hj, k⟩ := h
    refine ⟨_, (pss_one (ps_ret (pe_callTy (call_tupK (K := K)) (by rfl) T.z_tuple (by decide +kernel) (pa_cons (pe_lc (own := [("number", 2)]) (g := gName 2) (by rfl) sc_Bmembers.nd (pi_listK (K := K) (pe_fldK (K := K) (pv 0) rfl)) (blkOk_by (by rfl)) (fun _ _ _ _ _ => pg_name (i := 2) sc_Bmembers.nd rfl (by first | exact Or.inl rfl | exact Or.inr rfl)) (fun _ _ _ _ _ => (pts_one (pt_cmpR op_eq (pe_op op_and (pe_op op_shr (pv 1) (pv 2)) pe_int) pe_int (nomark _)))) (fun _ _ _ _ _ => (pv 2))) pa_nil)))), ?_⟩
    have hb' := hb
    obtain ⟨dx, fs, q1, q2, q3⟩ := hb'
    refine s_retU (eu_tupOf (el_filtL (fun o => m.testBit o) (ev_nums T (ev_var rfl) hb) (SqL.of q3) (by simp; omega) (fun _ => rfl) (fun x hx => ?_) (fun o H1 => ev_var rfl))) k
    have hx2 : x ≤ 1000 := by have := List.mem_range'.mp hx; omega
    refine et_is (et_test (ev_op (ev_op (ev_op (ev_var rfl) (ev_var rfl) (rv_I (C := fun _ j => 0 ≤ j) (by omega))) ev_c (rv_I0 (g := fun i j => .int (Builtin.bitAnd i j)))) ev_c (rv_eq rfl))) ?_
    have := bAt m x
    show decide (V.int (Builtin.bitAnd ((m : Int) / 2 ^ (x : Int).toNat) 1) = V.int 1) = m.testBit x
    rw [Int.toNat_natCast, this]
    cases m.testBit x <;> rfl
theorem sc_Brequired : FnScope ["self", "number"] ["self", "number"] (defScope s_Brequired) := ⟨rfl, rfl, rfl, by decide +kernel, rfl, by decide +kernel, by decide +kernel⟩
def spRequired (K : PySem.W.Frag) : Sp := fun vs H Q _ => ∃ (Y : BLay) (A : Ab) (j : Nat) (n : Nat), vs = [.ref Y.p, .int (n : Int)] ∧ BkE K H Y A j ∧ 1 ≤ n ∧ n ≤ j ∧ RetU (nv (asc j (A.R n))) H Q
theorem ok_Brequired (T : Txt K mg) : OkC PP w K mg base CX0 3 ("Book", some "required") ["self", "number"] (spRequired K) :=
  ok0 T.F_Brequired sc_Brequired (fun _ _ _ _ _ _ us hl => match us, hl with | [_, _], _ => rfl) (by rintro vs H Q E ⟨Y, A, j, n, rfl, _⟩; rfl) fun f cdv A0 outer s0 H vs Q E hr h => by
    obtain ⟨Y, A, j, n, rfl, ⟨fN, fB, fW, hB⟩, h1, h2, k⟩ := h
    refine ⟨_, (pss_one (ps_ret (pe_m T T.me_members (ok_Bmembers T) (hr.mono (by decide)) pass0 (pv 0) (pa_cons (pe_m T T.me_needs_mask (ok_Bneeds_mask T) (hr.mono (by decide)) pass0 (pv 0) (pa_cons (pv 1) pa_nil)) pa_nil)))), ?_⟩
    refine s_retU (eu_meth (ev_var rfl) hB.p rfl (ea_cons (ev_meth (ev_var rfl) hB.p rfl (ea_cons (ev_var rfl) ea_nil) fun H1 e1 Q q E => ⟨Y, A, j, fN, fB, fW, n, rfl, hB.ex e1, h1, h2, fun H2 e2 => q H2 e2⟩) ea_nil) fun H1 e1 Q q => ⟨Y.p, Y.ln, j, fN n, rfl, hB.nums.ex e1, by have := hB.jn; have := hB.nmax; omega, fun p H2 np e2 h2 => q p H2 np e2 h2⟩) ?_
    have e : asc j (fun o => (fN n).testBit o) = asc j (A.R n) := asc_congr fun o _ _ => hB.be n h2 o
    intro p H2 np e2 hp
    rw [e] at hp
    exact k p H2 np e2 hp
/-- for x in book -/
theorem q_forB {σ : L2.St} {H : Hp} {tl : TE} {a l : Addr} {xs : List V} {j : Nat} {tu tz : TS} {D : Ends} (h : Ev tl σ H (.ref a)) (hx : BkN K H a l xs) (Pv : Nat → L2.St → Hp → Prop) (h0 : ∀ H1, Ex H H1 → Pv 0 σ H1) (hl : ∀ i σ' H', Pv i σ' H' → BkN K H' a l xs)
    (hs : ∀ i x σ' H', xs[i]? = some x → Pv i σ' H' → tu { D with nx := Pv (i + 1), ct := Pv (i + 1), bk := tz D } (σ'.set j (some x)) H') (hd : ∀ σ' H', Pv xs.length σ' H' → tz D σ' H') : tSeq (tFor (iBook K tl) (gName j) tu) tz D σ H :=
  h H (Ex.refl H) _ fun H1 e => ⟨a, l, xs, rfl, hx.ex e, for_list (K := K) (a := l) (xs := xs) Pv (h0 H1 e) (fun i σ' H' _ p => by
    obtain ⟨_, _, _, _, h3⟩ := hl i σ' H' p
    exact SqL.of h3) hs hd⟩
end
end K27
set_option Elab.async false
set_option linter.all false
set_option maxRecDepth 100000
set_option maxHeartbeats 1000000
/-! K27B2: versions in the book, its first independent pair, all its versions. -/
namespace K27
open PySem PySem.Spec PyProof.Rows L2 Evl
local macro_rules | `(tactic| walk_at "rd") => `(tactic| repeat (first | refine ⟨_, _, rfl, rfl, ?_⟩ | refine ⟨_, rfl, ?_⟩ | refine ⟨_, _, _, _, rfl, rfl, SqL.of (by assumption), rfl, ?_⟩ | refine Or.inl ⟨_, rfl, ?_⟩ | refine ⟨Or.inl (by decide), ?_⟩ | refine ⟨(by decide : _ ≠ _), ?_⟩))
section
variable {w : World} {K : PySem.W.Frag} {mg : Str → Option Value} {base : Heap}
theorem sc_Blen : FnScope ["self"] ["self"] (defScope s_Blen) := ⟨rfl, rfl, rfl, by decide +kernel, rfl, by decide +kernel, by decide +kernel⟩
theorem ok_Blen (T : Txt K mg) : OkC PP w K mg base CX0 1 ("Book", some "__len__") ["self"] (spLen K) :=
  ok0 T.F_Blen sc_Blen (fun _ _ _ _ _ _ us hl => match us, hl with | [_], _ => rfl) (by rintro vs H Q E ⟨a, l, xs, rfl, _⟩; rfl) fun f cdv A0 outer s0 H vs Q E hr h => by
    obtain ⟨a, l, xs, rfl, ⟨dx, fs, h1, h2, h3⟩, k⟩ := h
    refine ⟨_, (pss_one (ps_ret (pe_callB (call_lenK (K := K)) (by rfl) T.z_len (by decide +kernel) (pa_cons (pe_fldK (K := K) (pv 0) rfl) pa_nil)))), ?_⟩
    exact ⟨_, rfl, a, _, dx, fs, _, rfl, h1, T.cl, T.na_numbers, h2, l, xs, rfl, .inl (SqL.of h3), k⟩
theorem sc_Biter : FnScope ["self"] ["self"] (defScope s_Biter) := ⟨rfl, rfl, rfl, by decide +kernel, rfl, by decide +kernel, by decide +kernel⟩
theorem ok_Biter (T : Txt K mg) : OkS PP w K mg base CX0 1 ("Book", some "__iter__") ["self"] (spIter K) :=
  okS T.F_Biter sc_Biter (fun _ _ _ _ _ _ us hl => match us, hl with | [_], _ => rfl) (by rintro n vs H Q E ⟨a, l, xs, rfl, _⟩; rfl) fun f cdv A0 outer s0 H vs Q E hr h => by
    obtain ⟨a, l, xs, rfl, ⟨dx, fs, h1, h2, h3⟩, k⟩ := h
    refine ⟨_, (pss_one (ps_ret (pe_callB ItX.call_iterN (by rfl) T.z_iter (by decide +kernel) (pa_cons (pe_fldK (K := K) (pv 0) rfl) pa_nil)))), ?_⟩
    exact ⟨_, rfl, a, _, dx, fs, _, rfl, h1, T.cl, T.na_numbers, h2, l, xs, rfl, SqL.of h3, k⟩
theorem sc_Bholds : FnScope ["self", "numbers", "mask", "previous", "number", "needs"] ["self", "numbers"] (defScope s_Bholds) := ⟨rfl, rfl, rfl, by decide +kernel, rfl, by decide +kernel, by decide +kernel⟩
def spHolds (K : PySem.W.Frag) : Sp := fun vs H Q _ => ∃ (Y : BLay) (A : Ab) (a : Addr) (S : Nat → Bool), vs = [.ref Y.p, .ref a] ∧ BkE K H Y A A.n ∧ Good A ∧ H a = some (.tup (nv (asc A.n S))) ∧ IsVer A S ∧ RetV (.bl true) H Q
theorem spHolds_in : ∀ vs H Q E, spHolds K vs H Q E → ∃ a dx fs x, vs = [.ref a, x] ∧ H a = some (.ins (He.ga K "Book") dx fs) := by
  rintro vs H Q E ⟨Y, A, a, S, rfl, ⟨fN, fB, fW, hB⟩, _⟩
  exact ⟨Y.p, _, _, _, rfl, hB.p⟩
theorem ok_Bholds (T : Txt K mg) : OkC PP w K mg base CX0 1 ("Book", some "holds") ["self", "numbers"] (spHolds K) :=
  ok0 T.F_Bholds sc_Bholds (fun _ _ _ _ _ _ us hl => match us, hl with | [_, _], _ => rfl) (by rintro vs H Q E ⟨Y, A, a, S, rfl, _⟩; rfl) fun f cdv A0 outer s0 H vs Q E hr h => by
    obtain ⟨Y, A, a, S, rfl, ⟨fN, fB, fW, hB⟩, hG, ha, hV, k⟩ := h
    refine ⟨_, (pss_cons (ps_set (i := 2) sc_Bholds.nd rfl (Or.inl rfl) pe_int) (pss_cons (ps_set (i := 3) sc_Bholds.nd rfl (Or.inl rfl) pe_int) (pss_cons (ps_for PassesOwn.never rfl (pi_tupK (K := K) (pv 1)) (pg_name (i := 4) sc_Bholds.nd rfl (Or.inl rfl)) (pss_cons (ps_if (pt_not (pt_chain op_lt op_le (pv 3) (pv 4) (pe_callB (call_lenK (K := K)) (by rfl) T.z_len (by decide +kernel) (pa_cons (pe_fldK (K := K) (pv 0) rfl) pa_nil)))) (pss_one (ps_ret pe_bl)) pss_nil) (pss_cons (ps_set (i := 5) sc_Bholds.nd rfl (Or.inl rfl) (pe_ix (ix_listK (K := K)) (pe_fldK (K := K) (pv 0) rfl) (pv 4) (fun _ _ => rfl))) (pss_cons (ps_if (PW.pt (pw_or (pt_cmpR op_ne (pe_op op_and (pv 5) (pv 2)) (pv 5) (nomark _)) (pw_or1 (pt_cmpR op_ne (pe_op op_and (pe_ix (ix_listK (K := K)) (pe_fldK (K := K) (pv 0) rfl) (pv 4) (fun _ _ => rfl)) (pv 2)) pe_int (nomark _))))) (pss_one (ps_ret pe_bl)) pss_nil) (pss_cons (ps_set (i := 2) sc_Bholds.nd rfl (Or.inl rfl) (pe_op op_or (pv 2) (pe_op op_oneShl pe_int (pv 4)))) (pss_one (ps_set (i := 3) sc_Bholds.nd rfl (Or.inl rfl) (pv 4)))))))) (pss_one (ps_ret pe_bl))))), ?_⟩
    have hnm := hB.nmax
    have hal := asc_len A.n S
    refine q_asg (v := .int ((0 : Nat) : Int)) ev_c fun H1 e1 => ?_
    refine q_asg (v := .int ((0 : Nat) : Int)) ev_c fun H2 e2 => ?_
    have e02 := e1.trans e2
    refine q_forT (xs := nv (asc A.n S)) (ev_var rfl) (ex_t e02 (SqT.of ha)) (fun i σ H' => ∃ (m pr : Nat) (x y : Option V), σ = [some (.ref Y.p), some (.ref a), some (.int (m : Int)), some (.int (pr : Int)), x, y] ∧ Ex H H' ∧ Bt m (fun o => decide (o ∈ (asc A.n S).take i)) ∧ ∀ o, (asc A.n S)[i]? = some o → pr < o)
      (fun H3 e3 => ⟨0, 0, _, _, rfl, e02.trans e3, bits_zero.congr fun i => by simp, fun o ho => by have := (mem_asc.mp (List.mem_of_getElem? ho)).1; omega⟩) (fun i σ H' _ ⟨m, pr, x, y, _, e, _⟩ => ex_t e (SqT.of ha)) (fun i x σ H' hx => ?_) (fun σ H' => ?_)
    · rintro ⟨m, pr, x0, y0, rfl, e, hm, hp⟩
      obtain ⟨n, hn, rfl⟩ := nv_get hx
      have hnm2 := mem_asc.mp (List.mem_of_getElem? hn)
      have hpn := hp n hn
      have hi : i < (asc A.n S).length := (List.getElem?_eq_some_iff.mp hn).1
      have hB' := hB.ex e
      have before : ∀ o, o ∈ asc A.n S → o < n → o ∈ (asc A.n S).take i := fun o ho hlt => by
        obtain ⟨j, hj, ej⟩ := List.mem_iff_getElem.mp ho
        have hji : j < i := by
          rcases Nat.lt_or_ge j i with h | h
          · exact h
          · exfalso
            have hgn : (asc A.n S)[i] = n := (List.getElem?_eq_some_iff.mp hn).2
            rcases Nat.lt_or_ge i j with h2 | h2
            · have := List.pairwise_iff_getElem.mp (asc_sorted A.n S) i j hi hj h2
              omega
            · have : i = j := by omega
              subst this
              omega
        rw [← ej]
        exact List.mem_take_iff_getElem.mpr ⟨j, by omega, rfl⟩
      refine q_when (b := false) (et_is (et_not (et_chain (ev_var rfl) (ev_var rfl) (ev_len (ev_nums T (ev_var rfl) hB'.nums) (SqL.of hB'.n)))) ?_) (fun h => by cases h) (fun _ H3 e3 => ?_)
      · rw [nv_len, List.length_range', decide_eq_true (by omega), decide_eq_true (by omega)]
        rfl
      have hB3 := hB'.ex e3
      refine q_asg (v := .int ((fN n : Nat) : Int)) (ev_op (ev_fld (ev_var rfl) hB3.p T.cl T.na_needs rfl) (ev_var rfl) (rv_ixL (SqL.of hB3.e) (nv_at (by omega)))) fun H4 e4 => ?_
      have hB4 := hB3.ex e4
      have en : fN n &&& m = fN n := Bt.eq (bits_and (hB.be n hnm2.1.2) hm) ((hB.be n hnm2.1.2).congr fun o => by
        cases h : A.R n o with
        | false => rfl
        | true =>
          have hlt := hG.r_lt n o h
          have := before o (mem_asc.mpr ⟨⟨hlt.1, by omega⟩, hV.clo n o hnm2.2 h⟩) hlt.2
          simp [this])
      have eb : fB n &&& m = 0 := zero_of_bits (bits_and (hB.bb n hnm2.1.2) hm) fun o => by
        by_cases h : o ∈ (asc A.n S).take i
        · have hS := (mem_asc.mp (List.mem_of_mem_take h)).2
          rw [hV.cf n o hnm2.2 hS]
          rfl
        · simp [h]
      refine q_when (b := false) (et_is (et_or (et_test (ev_op (ev_op (ev_var rfl) (ev_var rfl) (rv_I0 (g := fun i j => .int (Builtin.bitAnd i j)))) (ev_var rfl) (rv_ne rfl))) fun _ => et_test (ev_op (ev_op (ev_op (ev_fld (ev_var rfl) hB4.p T.cl T.na_bars rfl) (ev_var rfl) (rv_ixL (SqL.of hB4.b) (nv_at (by omega)))) (ev_var rfl) (rv_I0 (g := fun i j => .int (Builtin.bitAnd i j)))) ev_c (rv_ne rfl))) ?_) (fun h => by cases h) (fun _ H5 e5 => ?_)
      · rw [bAnd, bAnd, en, eb]
        simp
      refine q_asg (v := .int ((m ||| 2 ^ n : Nat) : Int)) (ev_is (ev_op (ev_var rfl) (ev_op ev_c (ev_var rfl) (rv_shl (by omega))) (rv_I0 (g := fun i j => .int (Builtin.bitOr i j)))) (by rw [bOr])) fun H6 e6 => ?_
      refine s_asg (ev_var rfl) fun H7 e7 => ?_
      refine ⟨m ||| 2 ^ n, n, _, _, rfl, ((((e.trans e3).trans e4).trans e5).trans e6).trans e7, (bits_or hm (bits_one n)).congr fun o => ?_, fun o ho => ?_⟩
      · rw [List.take_succ, hn]
        by_cases h : n = o
        · simp [h]
        · have : ¬ o = n := fun e => h e.symm
          simp [h, this]
      · have h2 := (List.getElem?_eq_some_iff.mp ho)
        obtain ⟨hj, ej⟩ := h2
        have := List.pairwise_iff_getElem.mp (asc_sorted A.n S) i (i + 1) hi hj (by omega)
        have hgn : (asc A.n S)[i] = n := (List.getElem?_eq_some_iff.mp hn).2
        omega
    · rintro ⟨m, pr, x0, y0, rfl, e, hm, hp⟩
      exact s_ret ev_c fun H5 e5 => k _ (e.trans e5)
theorem sc_Bcontains : FnScope ["self", "version"] ["self", "version"] (defScope s_Bcontains) := ⟨rfl, rfl, rfl, by decide +kernel, rfl, by decide +kernel, by decide +kernel⟩
theorem ok_Bcontains (T : Txt K mg) : OkC PP w K mg base CX0 2 ("Book", some "__contains__") ["self", "version"] (spHolds K) :=
  ok0 T.F_Bcontains sc_Bcontains (fun _ _ _ _ _ _ us hl => match us, hl with | [_, _], _ => rfl) (by rintro vs H Q E ⟨Y, A, a, S, rfl, _⟩; rfl) fun f cdv A0 outer s0 H vs Q E hr h => by
    obtain ⟨Y, A, a, S, rfl, ⟨fN, fB, fW, hB⟩, hG, ha, hV, k⟩ := h
    refine ⟨_, (pss_one (ps_ret (pe_m T T.me_holds (ok_Bholds T) (hr.mono (by decide)) pass0 (pv 0) (pa_cons (pv 1) pa_nil)))), ?_⟩
    exact ⟨_, rfl, Y.p, _, _, rfl, hB.p, rfl, _, rfl, Y, A, a, S, rfl, ⟨fN, fB, fW, hB⟩, hG, ha, hV, k⟩
theorem ev_needsM {σ : L2.St} {H : Hp} {to te : TE} {E : XK} {Y : BLay} {A : Ab} {j n : Nat} {fN fB fW : Nat → Nat} (ho : Ev to σ H (.ref Y.p)) (he : Ev te σ H (.int (n : Int))) (hB : Bk K H Y A j fN fB fW) (h1 : 1 ≤ n) (h2 : n ≤ j) : Ev (tMeth (He.ga K "Book") "needs_mask" (spMask K true) [] E to (tCons te tNil)) σ H (.int ((fN n : Nat) : Int)) :=
  ev_meth ho hB.p rfl (ea_cons he ea_nil) fun H1 e1 Q q E => ⟨Y, A, j, fN, fB, fW, n, rfl, hB.ex e1, h1, h2, fun H2 e2 => q H2 e2⟩
theorem ev_barsM {σ : L2.St} {H : Hp} {to te : TE} {E : XK} {Y : BLay} {A : Ab} {j n : Nat} {fN fB fW : Nat → Nat} (ho : Ev to σ H (.ref Y.p)) (he : Ev te σ H (.int (n : Int))) (hB : Bk K H Y A j fN fB fW) (h1 : 1 ≤ n) (h2 : n ≤ j) : Ev (tMeth (He.ga K "Book") "bars_mask" (spMask K false) [] E to (tCons te tNil)) σ H (.int ((fB n : Nat) : Int)) :=
  ev_meth ho hB.p rfl (ea_cons he ea_nil) fun H1 e1 Q q E => ⟨Y, A, j, fN, fB, fW, n, rfl, hB.ex e1, h1, h2, fun H2 e2 => q H2 e2⟩
theorem ev_leastM {σ : L2.St} {H : Hp} {te : TE} {E : XK} {m k : Nat} (he : Ev te σ H (.int (m : Int))) (h1 : m.testBit k = true) (h2 : ∀ i, i < k → m.testBit i = false) : Ev (tCall spLeast [] E (tCons te tNil)) σ H (.int (k : Int)) :=
  ev_call (ea_cons he ea_nil) fun H1 e1 Q q E => ⟨m, k, rfl, h1, h2, fun H2 e2 => q H2 e2⟩
theorem sc_independent_pair : FnScope ["book", "pair", "earlier", "number", "free"] ["book"] (defScope s_independent_pair) := ⟨rfl, rfl, rfl, by decide +kernel, rfl, by decide +kernel, by decide +kernel⟩
def spIndep (K : PySem.W.Frag) : Sp := fun vs H Q _ => ∃ (Y : BLay) (A : Ab), vs = [.ref Y.p] ∧ BkE K H Y A A.n ∧ Good A ∧ ∀ o, LeastP A A.n o → (o = none → RetV .non H Q) ∧ ∀ q, o = some q → RetU (nv [q.1, q.2]) H Q
theorem ok_independent_pair (T : Txt K mg) : OkC PP w K mg base CX0 3 ("independent_pair", none) ["book"] (spIndep K) :=
  ok0 T.F_independent_pair sc_independent_pair (fun _ _ _ _ _ _ us hl => match us, hl with | [_], _ => rfl) (by rintro vs H Q E ⟨Y, A, rfl, _⟩; rfl) fun f cdv A0 outer s0 H vs Q E hr h => by
    obtain ⟨Y, A, rfl, ⟨fN, fB, fW, hB⟩, hG, k⟩ := h
    refine ⟨_, (pss_cons (ps_set (i := 1) sc_independent_pair.nd rfl (Or.inl rfl) pe_non) (pss_cons (ps_set (i := 2) sc_independent_pair.nd rfl (Or.inl rfl) pe_int) (pss_cons (ps_for PassesOwn.never rfl (pi_book T (ok_Biter T) (hr.mono (by decide)) (pv 0)) (pg_name (i := 3) sc_independent_pair.nd rfl (Or.inl rfl)) (pss_cons (ps_set (i := 4) sc_independent_pair.nd rfl (Or.inl rfl) (pe_op op_and (pv 2) (pe_un un_inv (pe_op op_or (pe_m T T.me_needs_mask (ok_Bneeds_mask T) (hr.mono (by decide)) pass0 (pv 0) (pa_cons (pv 3) pa_nil)) (pe_m T T.me_bars_mask (ok_Bbars_mask T) (hr.mono (by decide)) pass0 (pv 0) (pa_cons (pv 3) pa_nil)))))) (pss_cons (ps_if (PW.pt (pw_and (pt_cmpR op_ne (pv 4) pe_int (nomark _)) (pw_and1 (PW.pt (pw_or (pt_cmpR op_isN (pv 1) pe_non (nomark _)) (pw_or1 (pt_cmpR op_lt (pe_c (ok_least_number T) (hr.mono (by decide)) T.g_least_number pass0 (pa_cons (pv 4) pa_nil)) (pe_ix (ix_tupK (K := K)) (pv 1) pe_int (fun _ _ => rfl)) (nomark _)))))))) (pss_one (ps_set (i := 1) sc_independent_pair.nd rfl (Or.inl rfl) (pe_tup (pa_cons (pe_c (ok_least_number T) (hr.mono (by decide)) T.g_least_number pass0 (pa_cons (pv 4) pa_nil)) (pa_cons (pv 3) pa_nil))))) pss_nil) (pss_one (ps_set (i := 2) sc_independent_pair.nd rfl (Or.inl rfl) (pe_op op_or (pv 2) (pe_op op_oneShl pe_int (pv 3)))))))) (pss_one (ps_ret (pv 1)))))), ?_⟩
    have hnm := hB.nmax
    refine q_asg (v := .non) ev_c fun H1 e1 => ?_
    refine q_asg (v := .int ((0 : Nat) : Int)) ev_c fun H2 e2 => ?_
    have e02 := e1.trans e2
    have hB2 := hB.ex e02
    refine q_forB (xs := nv (List.range' 1 A.n)) (ev_var rfl) hB2.nums (fun i σ H' => ∃ (o : Option (Nat × Nat)) (pv : V) (m : Nat) (x y : Option V), σ = [some (.ref Y.p), some pv, some (.int (m : Int)), x, y] ∧ Ex H H' ∧ Bt m (fun o => decide (1 ≤ o ∧ o ≤ i)) ∧ LeastP A i o ∧ (o = none → pv = .non) ∧ ∀ q, o = some q → ∃ t, pv = .ref t ∧ H' t = some (.tup (nv [q.1, q.2])) ∧ H t = none)
      (fun H3 e3 => ⟨none, _, 0, _, _, rfl, e02.trans e3, bits_zero.congr fun i => by rw [decide_eq_false (by omega)], fun a b hb q => by have := q.1; have := q.2.1; omega, fun _ => rfl, fun q hq => by cases hq⟩) (fun i σ H' ⟨o, pv, m, x, y, _, e, _⟩ => hB.nums.ex e) (fun i x σ H' hx => ?_) (fun σ H' => ?_)
    · rintro ⟨o, pv, m, x0, y0, rfl, e, hm, hL, hnone, hsome⟩
      obtain ⟨n, hn, rfl⟩ := nv_get hx
      have hni : n = i + 1 ∧ i < A.n := by
        have h1 := List.getElem?_eq_some_iff.mp hn
        obtain ⟨h2, h3⟩ := h1
        rw [List.length_range'] at h2
        rw [List.getElem_range'] at h3
        omega
      obtain ⟨rfl, hin⟩ := hni
      have hB' := hB.ex e
      have fbits : Bt (m - (m &&& (fN (i + 1) ||| fB (i + 1)))) (fun o => decide (1 ≤ o ∧ o ≤ i) && !(A.R (i + 1) o || (A.B (i + 1) o && decide (o ≤ A.n)))) := bits_sub hm (bits_or (hB.be (i + 1) (by omega)) (hB.bb (i + 1) (by omega)))
      generalize hfr : m - (m &&& (fN (i + 1) ||| fB (i + 1))) = free at fbits
      have fI : ∀ q, free.testBit q = true ↔ Indep A q (i + 1) := fun q => by
        rw [fbits q]
        unfold Indep
        constructor
        · intro h
          rw [Bool.and_eq_true, decide_eq_true_iff, Bool.not_eq_true', Bool.or_eq_false_iff] at h
          obtain ⟨⟨a1, a2⟩, a3, a4⟩ := h
          rw [decide_eq_true (by omega : q ≤ A.n), Bool.and_true] at a4
          exact ⟨a1, by omega, by omega, a3, a4⟩
        · rintro ⟨a1, a2, a3, a4, a5⟩
          show (decide (1 ≤ q ∧ q ≤ i) && !(A.R (i + 1) q || A.B (i + 1) q && decide (q ≤ A.n))) = true
          rw [a4, a5, decide_eq_true ⟨a1, by omega⟩]
          rfl
      refine q_asg (v := .int ((free : Nat) : Int)) (ev_is (ev_op (ev_var rfl) (ev_un (ev_op (ev_needsM (ev_var rfl) (ev_var rfl) hB' (by omega) (by omega)) (ev_barsM (ev_var rfl) (ev_var rfl) hB' (by omega) (by omega)) (rv_I0 (g := fun i j => .int (Builtin.bitOr i j)))) ru_inv) (rv_I0 (g := fun i j => .int (Builtin.bitAnd i j)))) (by rw [bOr, bAndNot, hfr])) fun H3 e3 => ?_
      have fin : ∀ o' pv' H4, Ex H3 H4 → LeastP A (i + 1) o' → (o' = none → pv' = .non) → (∀ q, o' = some q → ∃ t, pv' = .ref t ∧ H4 t = some (.tup (nv [q.1, q.2])) ∧ H t = none) →
          tAsg (tOp (rI0 fun i j => .int (Builtin.bitOr i j)) (tVar 2) (tOp (fun x y H Q => ∃ k : Nat, x = .int 1 ∧ y = .int (k : Int) ∧ k ≤ 134217727 ∧ Q (.int (2 ^ k)) H) (tC (.int 1)) (tVar 3))) (gName 2) { nx := (fun i σ H' => ∃ (o : Option (Nat × Nat)) (pv : V) (m : Nat) (x y : Option V), σ = [some (.ref Y.p), some pv, some (.int (m : Int)), x, y] ∧ Ex H H' ∧ Bt m (fun o => decide (1 ≤ o ∧ o ≤ i)) ∧ LeastP A i o ∧ (o = none → pv = .non) ∧ ∀ q, o = some q → ∃ t, pv = .ref t ∧ H' t = some (.tup (nv [q.1, q.2])) ∧ H t = none) (i + 1), rt := Q } [some (V.ref Y.p), some pv', some (V.int (m : Int)), some (V.int ((i + 1 : Nat) : Int)), some (V.int (free : Int))] H4 := fun o' pv' H4 e4 hL' hn' hs' => by
        refine s_asg (v := .int ((m ||| 2 ^ (i + 1) : Nat) : Int)) (ev_is (ev_op (ev_var rfl) (ev_op ev_c (ev_var rfl) (rv_shl (by omega))) (rv_I0 (g := fun i j => .int (Builtin.bitOr i j)))) (by rw [bOr])) fun H5 e5 => ?_
        refine ⟨o', pv', m ||| 2 ^ (i + 1), _, _, rfl, ((e.trans e3).trans e4).trans e5, (bits_or hm (bits_one (i + 1))).congr fun o => ?_, hL', hn', fun q hq => ?_⟩
        · by_cases h : 1 ≤ o ∧ o ≤ i
          · simp [h]; omega
          · by_cases h2 : i + 1 = o
            · subst h2; simp
            · simp [h, h2]; omega
        · obtain ⟨t, h1, h2, h3⟩ := hs' q hq
          exact ⟨t, h1, e5 _ _ h2, h3⟩
      by_cases hz : free = 0
      · subst hz
        refine q_when (b := false) (et_is (et_and (b := false) (et_test (ev_op (ev_var rfl) ev_c (rv_ne rfl))) fun h => by cases h) rfl) (fun h => by cases h) (fun _ H4 e4 => ?_)
        refine fin o pv H4 e4 ?_ hnone fun q hq => ?_
        · have hno : ∀ a, ¬ Indep A a (i + 1) := fun a q => by have := (fI a).mpr q; simp at this
          cases o with
          | none =>
            intro a b hb q
            by_cases hbi : b ≤ i
            · exact hL a b hbi q
            · have : b = i + 1 := by omega
              subst this
              exact hno a q
          | some p =>
            refine ⟨hL.1, by have := hL.2.1; omega, fun a b hb q => ?_⟩
            by_cases hbi : b ≤ i
            · exact hL.2.2 a b hbi q
            · have : b = i + 1 := by omega
              subst this
              exact absurd q (hno a)
        · obtain ⟨t, h1, h2, h3⟩ := hsome q hq
          exact ⟨t, h1, e4 _ _ (e3 _ _ h2), h3⟩
      · obtain ⟨q, hq1, hq2, _⟩ := bLow free hz
        have hqI := (fI q).mp hq1
        have hmin : ∀ a, Indep A a (i + 1) → q ≤ a := fun a ha => by
          rcases Nat.lt_or_ge a q with h | h
          · have := (fI a).mpr ha
            rw [hq2 a h] at this
            cases this
          · exact h
        have mk : ∀ H4, Ex H3 H4 → LeastP A (i + 1) (some (q, i + 1)) → tSeq (tAsg (tTup (tCons (tCall spLeast [] E0 (tCons (tVar 4) tNil)) (tCons (tVar 3) tNil))) (gName 1)) (tAsg (tOp (rI0 fun i j => .int (Builtin.bitOr i j)) (tVar 2) (tOp (fun x y H Q => ∃ k : Nat, x = .int 1 ∧ y = .int (k : Int) ∧ k ≤ 134217727 ∧ Q (.int (2 ^ k)) H) (tC (.int 1)) (tVar 3))) (gName 2)) { nx := (fun i σ H' => ∃ (o : Option (Nat × Nat)) (pv : V) (m : Nat) (x y : Option V), σ = [some (.ref Y.p), some pv, some (.int (m : Int)), x, y] ∧ Ex H H' ∧ Bt m (fun o => decide (1 ≤ o ∧ o ≤ i)) ∧ LeastP A i o ∧ (o = none → pv = .non) ∧ ∀ q, o = some q → ∃ t, pv = .ref t ∧ H' t = some (.tup (nv [q.1, q.2])) ∧ H t = none) (i + 1), rt := Q } [some (V.ref Y.p), some pv, some (V.int (m : Int)), some (V.int ((i + 1 : Nat) : Int)), some (V.int (free : Int))] H4 := fun H4 e4 hL' => by
          refine q_asgU (xs := nv [q, i + 1]) (eu_tup (ea_cons (ev_leastM (ev_var rfl) hq1 hq2) (ea_cons (ev_var rfl) ea_nil)) (by show 2 ≤ 100000; decide)) fun t H5 nt e5 ht => ?_
          exact fin (some (q, i + 1)) (.ref t) H5 (e4.trans e5) hL' (fun h => by cases h) fun q' hq' => by
            cases hq'
            exact ⟨t, rfl, ht, fresh_back ((e.trans e3).trans e4) nt⟩
        have hne : (!decide (V.int (free : Int) = V.int 0)) = true := by
          have h0 : ¬ (V.int (free : Int) = V.int 0) := fun e => by
            injection e with e
            omega
          rw [decide_eq_false h0]
          rfl
        cases o with
        | none =>
          have hpv := hnone rfl
          subst hpv
          refine q_when (b := true) (et_is (et_and (et_test (ev_op (ev_var rfl) ev_c (rv_ne rfl))) fun _ => et_or (a := true) (b := true) (et_test (fun H4 e4 Q4 q4 => ⟨_, rfl, rfl, q4 H4 (Ex.refl _)⟩)) fun h => by cases h) (by rw [hne]; rfl)) (fun _ H4 e4 => ?_) (fun h => by cases h)
          exact mk H4 e4 ⟨hqI, Nat.le_refl _, fun a b hb hI => by
            by_cases hbi : b ≤ i
            · exact absurd hI (hL a b hbi)
            · have : b = i + 1 := by omega
              subst this
              have := hmin a hI
              show q < a ∨ q = a ∧ i + 1 ≤ i + 1
              omega⟩
        | some p =>
          obtain ⟨t, hpv, ht, ht0⟩ := hsome p rfl
          subst hpv
          have ht3 := e3 _ _ ht
          refine q_when (b := decide ((q : Int) < (p.1 : Int))) (et_is (et_and (et_test (ev_op (ev_var rfl) ev_c (rv_ne rfl))) fun _ => et_or (a := false) (et_test (fun H4 e4 Q4 q4 => ⟨_, rfl, rfl, q4 H4 (Ex.refl _)⟩)) fun _ => et_test (ev_op (ev_leastM (ev_var rfl) hq1 hq2) (ev_op (ev_var rfl) ev_c (rv_ixT (SqT.of ht3) rfl)) rv_I0)) (by rw [hne]; rfl)) (fun hlt H4 e4 => ?_) (fun hlt H4 e4 => ?_)
          · have hlt := of_decide_eq_true hlt
            exact mk H4 e4 ⟨hqI, Nat.le_refl _, fun a b hb hI => by
              show q < a ∨ q = a ∧ i + 1 ≤ b
              by_cases hbi : b ≤ i
              · have := hL.2.2 a b hbi hI
                omega
              · have : b = i + 1 := by omega
                subst this
                have := hmin a hI
                omega⟩
          · have hlt := of_decide_eq_false hlt
            refine fin (some p) (.ref t) H4 e4 ⟨hL.1, by have := hL.2.1; omega, fun a b hb hI => ?_⟩ (fun h => by cases h) fun q' hq' => by
              cases hq'
              exact ⟨t, rfl, e4 _ _ ht3, ht0⟩
            by_cases hbi : b ≤ i
            · exact hL.2.2 a b hbi hI
            · have : b = i + 1 := by omega
              subst this
              have := hmin a hI
              have := hL.2.1
              omega
    · rintro ⟨o, pv, m, x0, y0, rfl, e, hm, hL, hnone, hsome⟩
      rw [nv_len, List.length_range'] at hL
      obtain ⟨k1, k2⟩ := k o hL
      cases o with
      | none =>
        have := hnone rfl
        subst this
        exact s_ret (ev_var rfl) fun H5 e5 => k1 rfl _ (e.trans e5)
      | some p =>
        obtain ⟨t, hpv, ht, ht0⟩ := hsome p rfl
        subst hpv
        exact s_ret (ev_var rfl) fun H5 e5 => k2 p rfl t H5 ht0 (e.trans e5) (e5 _ _ ht)
end
end K27
set_option Elab.async false
set_option linter.all false
set_option maxRecDepth 100000
set_option maxHeartbeats 1000000
/-! K27B3: all versions of the book. -/
namespace K27
open PySem PySem.Spec PyProof.Rows L2 Evl
local macro_rules | `(tactic| walk_at "rd") => `(tactic| repeat (first | refine ⟨_, _, rfl, rfl, ?_⟩ | refine ⟨_, rfl, ?_⟩ | refine ⟨_, _, _, _, rfl, rfl, SqL.of (by assumption), rfl, ?_⟩ | refine Or.inl ⟨_, rfl, ?_⟩ | refine ⟨Or.inl (by decide), ?_⟩ | refine ⟨(by decide : _ ≠ _), ?_⟩))
section
variable {w : World} {K : PySem.W.Frag} {mg : Str → Option Value} {base : Heap}
/-- xs.append(e), e a tuple -/
theorem s_appW {σ : L2.St} {H : Hp} {ta te : TE} {l : Addr} {xs ys : List V} {D : Ends} (hl : H l = some (.lst xs)) (ha : Ev ta σ H (.ref l)) (h : EvW te σ H ys) (hz : xs.length < 100000) (k : ∀ p H1, Ex H H1 → H1 p = some (.tup ys) → D.nx σ (upd H1 l (.lst (xs ++ [.ref p])))) :
    tDrop (tBM K "list" rAppend ta (tCons te tNil)) D σ H := ha H (Ex.refl H) _ fun H1 e1 =>
  ⟨Or.inl ⟨rfl, xs, sq_of (e1 l _ hl)⟩, h H1 e1 _ fun p H2 e2 h2 => ⟨l, xs, .ref p, rfl, rfl, e2 l _ (e1 l _ hl), sz_lt hz, k p H2 (e1.trans e2) h2⟩⟩
theorem ev_lenBk {σ : L2.St} {H : Hp} {te : TE} {a l : Addr} {xs : List V} (h : Ev te σ H (.ref a)) (hb : BkN K H a l xs) (hz : xs.length ≤ 1000) : Ev (tCB (fun xs H Q => ∃ a l ys, xs = [V.ref a] ∧ BkN K H a l ys ∧ ys.length ≤ 1000000 ∧ Q (.int ys.length) H) (tCons te tNil)) σ H (.int (xs.length : Int)) := fun H1 e Q q =>
  h H1 e _ fun H2 e2 => ⟨a, l, xs, rfl, hb.ex (e.trans e2), by omega, q H2 e2⟩
theorem sc_grown : FnScope ["book", "version", "mask", "first", "told", "number", "needs"] ["book", "version"] (defScope s_grown) := ⟨rfl, rfl, rfl, by decide +kernel, rfl, by decide +kernel, by decide +kernel⟩
def spGrown (K : PySem.W.Frag) : Sp := fun vs H Q _ => ∃ (Y : BLay) (A : Ab) (a : Addr) (v : List Nat), vs = [.ref Y.p, .ref a] ∧ BkE K H Y A A.n ∧ Good A ∧ H a = some (.tup (nv v)) ∧ (∀ x ∈ v, 1 ≤ x ∧ x ≤ A.n) ∧ v.Pairwise (· < ·) ∧ RetZ (kids A v) H Q
theorem lastOr_le {v : List Nat} {n : Nat} (h : ∀ x ∈ v, 1 ≤ x ∧ x ≤ n) : lastOr v ≤ n := by
  rcases List.eq_nil_or_concat v with rfl | ⟨p, m, rfl⟩
  · exact Nat.zero_le _
  · rw [List.concat_eq_append] at h ⊢
    rw [lastOr_snoc]
    exact (h m (by simp)).2
theorem ok_grown (T : Txt K mg) : OkC PP w K mg base CX0 3 ("grown", none) ["book", "version"] (spGrown K) :=
  ok0 T.F_grown sc_grown (fun _ _ _ _ _ _ us hl => match us, hl with | [_, _], _ => rfl) (by rintro vs H Q E ⟨Y, A, a, v, rfl, _⟩; rfl) fun f cdv A0 outer s0 H vs Q E hr h => by
    obtain ⟨Y, A, a, v, rfl, ⟨fN, fB, fW, hB⟩, hG, ha, hv, hvs, k⟩ := h
    refine ⟨_, (pss_cons (ps_set (i := 2) sc_grown.nd rfl (Or.inl rfl) (pe_m T T.me_mask_of (ok_Bmask_of T) (hr.mono (by decide)) pass0 (pv 0) (pa_cons (pv 1) pa_nil))) (pss_cons (ps_set (i := 3) sc_grown.nd rfl (Or.inl rfl) (pe_ifExp (pt_cmpR op_gt (pe_callB (call_lenK (K := K)) (by rfl) T.z_len (by decide +kernel) (pa_cons (pv 1) pa_nil)) pe_int (nomark _)) (pe_op op_add (pe_ix (ix_tupK (K := K)) (pv 1) (pe_un un_neg pe_int) (fun _ _ => rfl)) pe_int) pe_int)) (pss_cons (ps_set (i := 4) sc_grown.nd rfl (Or.inl rfl) (pe_lst pa_nil)) (pss_cons (ps_for PassesOwn.never rfl (pi_range2 (by rfl) T.z_range (pa_cons (pv 3) (pa_cons (pe_op op_add (pe_callB (call_lenB T (ok_Blen T) (hr.mono (by decide))) (by rfl) T.z_len (by decide +kernel) (pa_cons (pv 0) pa_nil)) pe_int) pa_nil))) (pg_name (i := 5) sc_grown.nd rfl (Or.inl rfl)) (pss_cons (ps_set (i := 6) sc_grown.nd rfl (Or.inl rfl) (pe_m T T.me_needs_mask (ok_Bneeds_mask T) (hr.mono (by decide)) pass0 (pv 0) (pa_cons (pv 5) pa_nil))) (pss_one (ps_if (PW.pt (pw_and (pt_cmpR op_eq (pe_op op_and (pv 6) (pv 2)) (pv 6) (nomark _)) (pw_and1 (pt_cmpR op_eq (pe_op op_and (pe_m T T.me_bars_mask (ok_Bbars_mask T) (hr.mono (by decide)) pass0 (pv 0) (pa_cons (pv 5) pa_nil)) (pv 2)) pe_int (nomark _))))) (pss_one (ps_expr (pe_appK (K := K) (pv 4) (pa_cons (pe_op (op_catK (K := K)) (pv 1) (pe_tup (pa_cons (pv 5) pa_nil))) pa_nil)))) pss_nil)))) (pss_one (ps_ret (pv 4))))))), ?_⟩
    have hnm := hB.nmax
    have hvl := len_le_of hv hvs
    have hlo := lastOr_le hv
    refine q_do ⟨_, rfl, Y.p, _, _, rfl, hB.p, rfl, _, rfl, Y.p, a, v, rfl, SqT.of ha, fun x hx => by have := (hv x hx).2; omega, ?_⟩
    intro m hm H1 e1
    have ha1 := e1 _ _ ha
    refine q_asg (v := .int ((lastOr v + 1 : Nat) : Int)) (ev_if (b := decide ((0 : Int) < ((nv v).length : Int))) (et_test (ev_op (ev_lenT (ev_var rfl) (SqT.of ha1)) ev_c rv_I0)) (fun hb => ?_) (fun hb => ?_)) fun H2 e2 => ?_
    · rcases List.eq_nil_or_concat v with rfl | ⟨p, x, rfl⟩
      · have := of_decide_eq_true hb
        simp at this
      · rw [List.concat_eq_append] at ha1 ⊢
        rw [lastOr_snoc]
        refine ev_is (ev_op (ev_op (ev_var rfl) (ev_un ev_c ru_neg) (rv_ixT (SqT.of ha1) (v := .int (x : Int)) ?_)) ev_c rv_I0) (by show V.int ((x : Int) + 1) = _; rfl)
        rw [nv_app]
        exact atI_last _ _
    · have : v = [] := by
        have := of_decide_eq_false hb
        rw [nv_len] at this
        cases v with
        | nil => rfl
        | cons x v => simp at this
      subst this
      exact ev_c
    have e02 := e1.trans e2
    refine q_asgL (xs := []) (el_lst ea_nil (by decide)) fun td H3 ntd e3 htd => ?_
    have ntd0 : H td = none := fresh_back e02 ntd
    have e03 := e02.trans e3
    have hB3 := hB.ex e03
    refine q_forR2 (lo := ((lastOr v + 1 : Nat) : Int)) (n := (A.n : Int) + 1) (ea_cons (ev_var rfl) (ea_cons (ev_is (ev_op (ev_lenBk (ev_var rfl) hB3.nums (by simp; omega)) ev_c rv_I0) (by simp)) ea_nil)) ⟨by omega, by omega, by omega, by omega⟩
      (fun i σ H' => ∃ ps x y, σ = [some (.ref Y.p), some (.ref a), some (.int (m : Int)), some (.int ((lastOr v + 1 : Nat) : Int)), some (.ref td), x, y] ∧ Ex H H' ∧ H' td = some (.lst (ps.map V.ref)) ∧ Tupz H' ps (kidsTo A v (lastOr v) i))
      (fun H4 e4 => ⟨[], _, _, rfl, e03.trans e4, e4 _ _ htd, trivial⟩) (fun i σ H' hi => ?_) (fun σ H' => ?_)
    · rintro ⟨ps, x, y, rfl, e, htd, hT⟩
      have ec : ((lastOr v + 1 : Nat) : Int) + (i : Int) = ((lastOr v + 1 + i : Nat) : Int) := by omega
      rw [ec]
      generalize hn : lastOr v + 1 + i = n
      have hn1 : 1 ≤ n := by omega
      have hn2 : n ≤ A.n := by omega
      have hB' := hB.ex e
      have hk : kidsTo A v (lastOr v) (i + 1) = kidsTo A v (lastOr v) i ++ (if fits A v n = true then [v ++ [n]] else []) := by
        unfold kidsTo
        rw [List.range'_concat, List.filter_append, List.map_append]
        congr 1
        rw [show lastOr v + 1 + 1 * i = n by omega, List.filter_cons]
        split <;> rfl
      have hlen : ps.length ≤ i := by
        rw [hT.len]
        unfold kidsTo
        rw [List.length_map]
        have := List.length_filter_le (fun k => fits A v k) (List.range' (lastOr v + 1) i)
        rw [List.length_range'] at this
        exact this
      have hfit : (decide (fN n &&& m = fN n) && decide (fB n &&& m = 0)) = fits A v n := by
        have h1 : (fN n &&& m = fN n) ↔ ∀ o, A.R n o = true → o ∈ v := by
          constructor
          · intro h o ho
            have := bits_and (hB.be n hn2) hm o
            rw [h, hB.be n hn2 o] at this
            have t2 : A.R n o = (A.R n o && decide (o ∈ v)) := this
            rw [ho] at t2
            exact of_decide_eq_true t2.symm
          · intro h
            refine Bt.eq (bits_and (hB.be n hn2) hm) ((hB.be n hn2).congr fun o => ?_)
            cases h1 : A.R n o with
            | false => rfl
            | true => simp [h o h1]
        have h2 : (fB n &&& m = 0) ↔ ∀ o, A.B n o = true → o ∉ v := by
          constructor
          · intro h o ho hv'
            have := bits_and (hB.bb n hn2) hm o
            rw [h, Nat.zero_testBit] at this
            have t2 : false = ((A.B n o && decide (o ≤ A.n)) && decide (o ∈ v)) := this
            rw [ho, decide_eq_true (hv o hv').2, decide_eq_true hv'] at t2
            cases t2
          · intro h
            refine zero_of_bits (bits_and (hB.bb n hn2) hm) fun o => ?_
            cases h1 : A.B n o with
            | false => rfl
            | true => simp [h o h1]
        rw [Bool.eq_iff_iff, Bool.and_eq_true, decide_eq_true_iff, decide_eq_true_iff, fits_iff hG, h1, h2]
      refine q_asg (v := .int ((fN n : Nat) : Int)) (ev_needsM (ev_var rfl) (ev_var rfl) hB' hn1 hn2) fun H4 e4 => ?_
      have hB4 := hB'.ex e4
      have e04 := e.trans e4
      refine s_when (b := fits A v n) (et_is (et_and (et_test (ev_op (ev_op (ev_var rfl) (ev_var rfl) (rv_I0 (g := fun i j => .int (Builtin.bitAnd i j)))) (ev_var rfl) (rv_eq rfl))) fun _ => et_test (ev_op (ev_op (ev_barsM (ev_var rfl) (ev_var rfl) hB4 hn1 hn2) (ev_var rfl) (rv_I0 (g := fun i j => .int (Builtin.bitAnd i j)))) ev_c (rv_eq rfl))) ?_) (fun hb H5 e5 => ?_) (fun hb H5 e5 => ?_)
      · rw [bAnd, bAnd, ← hfit]
        congr 1
        · rw [Bool.eq_iff_iff, decide_eq_true_iff, decide_eq_true_iff]
          constructor
          · intro h; injection h with h; omega
          · intro h; rw [h]
        · rw [Bool.eq_iff_iff, decide_eq_true_iff, decide_eq_true_iff]
          constructor
          · intro h; injection h with h; omega
          · intro h; rw [h]; rfl
      · have e45 := e4.trans e5
        refine s_appW (xs := ps.map V.ref) (e45 _ _ htd) (ev_var rfl) (ew_snoc (ew_ev (ev_var rfl) ((e.trans e45) _ _ ha)) (ew_eu (eu_tup (ea_cons (ev_var rfl) ea_nil) (by show 1 ≤ 100000; decide))) (by omega)) (by rw [List.length_map]; omega) fun p H6 e6 hp => ?_
        refine ⟨ps ++ [p], _, _, rfl, Ex.mut ((e.trans e45).trans e6) ntd0, by rw [upd_same]; simp, ?_⟩
        rw [hk, if_pos hb]
        exact Tupz.upd (xs := ps.map V.ref) (Tupz.app (hT.ex (e45.trans e6)) (Tupz.one hp)) (.inl ((e45.trans e6) _ _ htd))
      · have e45 := e4.trans e5
        refine ⟨ps, _, _, rfl, e.trans e45, e45 _ _ htd, ?_⟩
        rw [hk, if_neg (by rw [hb]; exact Bool.false_ne_true), List.append_nil]
        exact hT.ex e45
    · rintro ⟨ps, x, y, rfl, e, htd, hT⟩
      rw [show ((A.n : Int) + 1 - ((lastOr v + 1 : Nat) : Int)).toNat = A.n - lastOr v by omega] at hT
      exact s_ret (ev_var rfl) fun H5 e5 => k td ps H5 ntd0 (e.trans e5) (e5 _ _ htd) (hT.ex e5)
theorem sc_all_versions : FnScope ["book", "limit", "told", "place", "version"] ["book", "limit"] (defScope s_all_versions) := ⟨rfl, rfl, rfl, by decide +kernel, rfl, by decide +kernel, by decide +kernel⟩
def spAllV (K : PySem.W.Frag) : Sp := fun vs H Q _ => ∃ (Y : BLay) (A : Ab) (lim : Nat), vs = [.ref Y.p, .int (lim : Int)] ∧ BkE K H Y A A.n ∧ Good A ∧ (allV A A.n).length ≤ lim ∧ lim ≤ 1000 ∧ ∀ p xs H', H p = none → Ex H H' → H' p = some (.lst xs) → xs.length = (allV A A.n).length → Q (.ref p) H'
theorem sum_ge {l : List Nat} (h : ∀ x ∈ l, 1 ≤ x) : l.length ≤ l.sum := by
  induction l with
  | nil => exact Nat.le_refl _
  | cons a l ih =>
    rw [List.length_cons, List.sum_cons]
    have := ih fun x hx => h x (.tail _ hx)
    have := h a (.head _)
    omega
theorem cnt_ge (A : Ab) (l : List (List Nat)) : l.length ≤ (l.map (cnt A)).sum := by
  have := sum_ge (l := l.map (cnt A)) (fun x hx => by
    obtain ⟨v, _, rfl⟩ := List.mem_map.mp hx
    exact cnt_pos A v)
  rw [List.length_map] at this
  exact this
theorem kids_ok {A : Ab} {v z : List Nat} (hv : ∀ x ∈ v, 1 ≤ x ∧ x ≤ A.n) (hs : v.Pairwise (· < ·)) (hz : z ∈ kids A v) : (∀ x ∈ z, 1 ≤ x ∧ x ≤ A.n) ∧ z.Pairwise (· < ·) := by
  obtain ⟨k, hk, rfl⟩ := List.mem_map.mp hz
  have hk2 := List.mem_range'.mp (List.mem_filter.mp hk).1
  have hlo := lastOr_le hv
  refine ⟨fun x hx => ?_, ?_⟩
  · rcases List.mem_append.mp hx with h | h
    · exact hv x h
    · have : x = k := by simpa using h
      omega
  · rw [List.pairwise_append]
    refine ⟨hs, by simp, fun x hx y hy => ?_⟩
    have : y = k := by simpa using hy
    have hxl : x ≤ lastOr v := by
      rcases List.eq_nil_or_concat v with rfl | ⟨p, m, rfl⟩
      · cases hx
      · rw [List.concat_eq_append] at hs hx ⊢
        rw [lastOr_snoc]
        rcases List.mem_append.mp hx with h | h
        · exact Nat.le_of_lt ((List.pairwise_append.mp hs).2.2 x h m (by simp))
        · have : x = m := by simpa using h
          omega
    omega
theorem ez_call {σ : L2.St} {H : Hp} {sp : Sp} {E : XK} {ta : TA} {vs : List V} {zs : List (List Nat)} (h : EvA ta σ H vs) (hs : ∀ H1, Ex H H1 → ∀ Q : VK, (∀ p ps H2, H1 p = none → Ex H1 H2 → H2 p = some (.lst (ps.map V.ref)) → Tupz H2 ps zs → Q (.ref p) H2) → sp (vs ++ []) H1 Q E) : EvZ (tCall sp [] E ta) σ H zs := fun H1 e Q q =>
  h H1 e _ fun H2 e2 => hs H2 (e.trans e2) Q fun p ps H3 hp e3 h3 hT => q p ps H3 (fresh_back e2 hp) (e2.trans e3) h3 hT
theorem q_forZ {σ : L2.St} {H : Hp} {te : TE} {zs : List (List Nat)} {j : Nat} {tu tz : TS} {D : Ends} (h : EvZ te σ H zs)
    (k : ∀ p ps H1, H p = none → Ex H H1 → H1 p = some (.lst (ps.map V.ref)) → Tupz H1 ps zs → ∃ Pv : Nat → L2.St → Hp → Prop, Pv 0 σ H1 ∧ (∀ i σ' H', Pv i σ' H' → H' p = some (.lst (ps.map V.ref))) ∧
      (∀ i t σ' H', ps[i]? = some t → Pv i σ' H' → tu { D with nx := Pv (i + 1), ct := Pv (i + 1), bk := tz D } (σ'.set j (some (.ref t))) H') ∧ ∀ σ' H', Pv ps.length σ' H' → tz D σ' H') : tSeq (tFor (iList K te) (gName j) tu) tz D σ H :=
  h H (Ex.refl _) _ fun p ps H1 np e hp hT => ⟨p, rfl, ⟨_, SqL.of hp⟩, by
    obtain ⟨Pv, h0, hl, hs, hd⟩ := k p ps H1 np e hp hT
    refine for_list (xs := ps.map V.ref) Pv h0 (fun i σ' H' _ q => SqL.of (hl i σ' H' q)) (fun i x σ' H' hx q => ?_) (fun σ' H' q => hd σ' H' (by rw [List.length_map] at q; exact q))
    rw [List.getElem?_map] at hx
    cases e4 : ps[i]? with
    | none => rw [e4] at hx; cases hx
    | some tt =>
      rw [e4] at hx
      cases hx
      exact hs i tt σ' H' e4 q⟩
theorem ok_all_versions (T : Txt K mg) : OkC PP w K mg base CX0 4 ("all_versions", none) ["book", "limit"] (spAllV K) := by
  obtain ⟨fd, F⟩ := T.F_all_versions
  refine ⟨fd, F.ok sc_all_versions (by rintro vs H Q E ⟨Y, A, lim, rfl, _⟩; rfl) ?_, ?_, F.kp⟩
  · intro cdv A0 outer s0 H vs Q E hr h
    suffices hx : ∃ t, PSs (cxOf CX0 PP w K mg base ["book", "limit", "told", "place", "version"] d_all_versions.qual d_all_versions.scope (He.fAd K d_all_versions.at_) cdv A0 outer s0 H E).nox d_all_versions.body t ∧ t { nx := fun _ H' => Q .non H', rt := Q } (L2.start ["book", "limit", "told", "place", "version"] vs) H by
      obtain ⟨t, h1, h2⟩ := hx
      exact ⟨t, h1.nox, h2⟩
    obtain ⟨Y, A, lim, rfl, ⟨fN, fB, fW, hB⟩, hG, hV, hlim, k⟩ := h
    refine ⟨_, (pss_cons (ps_set (i := 2) sc_all_versions.nd rfl (Or.inl rfl) (pe_lst (pa_cons (pe_tup pa_nil) pa_nil))) (pss_cons (ps_set (i := 3) sc_all_versions.nd rfl (Or.inl rfl) pe_int) (pss_cons (ps_while PassesOwn.never (pt_cmpR op_lt (pv 3) (pe_callB (call_lenK (K := K)) (by rfl) T.z_len (by decide +kernel) (pa_cons (pv 2) pa_nil)) (nomark _)) (pss_cons (ps_for PassesOwn.never rfl (pi_listK (K := K) (pe_c (ok_grown T) (hr.mono (by decide)) T.g_grown pass0 (pa_cons (pv 0) (pa_cons (pe_ix (ix_listK (K := K)) (pv 2) (pv 3) (fun _ _ => rfl)) pa_nil)))) (pg_name (i := 4) sc_all_versions.nd rfl (Or.inl rfl)) (pss_cons (ps_if (pt_cmpR op_ge (pe_callB (call_lenK (K := K)) (by rfl) T.z_len (by decide +kernel) (pa_cons (pv 2) pa_nil)) (pv 1) (nomark _)) (pss_one ps_never) pss_nil) (pss_one (ps_expr (pe_appK (K := K) (pv 2) (pa_cons (pv 4) pa_nil)))))) (pss_one (ps_set (i := 3) sc_all_versions.nd rfl (Or.inl rfl) (pe_op op_add (pv 3) pe_int))))) (pss_one (ps_ret (pv 2)))))), ?_⟩
    refine q_asgZ ez_unit fun p0 ps0 H1 n0 e1 h1 hT1 => ?_
    refine q_asg (v := .int ((0 : Nat) : Int)) ev_c fun H2 e2 => ?_
    have e02 := e1.trans e2
    refine q_while (fun m σ H' => ∃ (i : Nat) (td : Addr) (ps : List Addr) (vs : List (List Nat)) (y : Option V), σ = [some (.ref Y.p), some (.int (lim : Int)), some (.ref td), some (.int (i : Int)), y] ∧ Ex H H' ∧ H td = none ∧ H' td = some (.lst (ps.map V.ref)) ∧ Tupz H' ps vs ∧ (∀ v ∈ vs, (∀ x ∈ v, 1 ≤ x ∧ x ≤ A.n) ∧ v.Pairwise (· < ·)) ∧ i ≤ vs.length ∧ i + ((vs.drop i).map (cnt A)).sum = (allV A A.n).length ∧ m = (allV A A.n).length - i)
      ((allV A A.n).length - 0) ⟨0, p0, ps0, [[]], _, rfl, e02, n0, e2 _ _ h1, hT1.ex e2, fun v hv => by
        have : v = [] := by simpa using hv
        subst this
        exact ⟨(fun x hx => by cases hx), .nil⟩, Nat.zero_le _, by simp [cnt_nil], rfl⟩ ?_
    rintro m σ H' ⟨i, td, ps, vs, y, rfl, e, ntd, htd, hT, hvs, hi, hsum, rfl⟩
    have hlen := hT.len
    refine ⟨decide (i < vs.length), et_is (et_test (ev_op (ev_var rfl) (ev_len (ev_var rfl) (SqL.of htd)) rv_I0)) (by rw [List.length_map, hlen, Bool.eq_iff_iff, decide_eq_true_iff, decide_eq_true_iff]; omega), fun hb H3 e3 => ?_, fun hb H3 e3 => ?_⟩
    · have hlt : i < vs.length := of_decide_eq_true hb
      have hv := hvs _ (List.getElem_mem hlt)
      obtain ⟨tv, htv, htv2⟩ := hT.get' (List.getElem?_eq_getElem hlt)
      have hdrop : vs.drop i = vs[i] :: vs.drop (i + 1) := List.drop_eq_getElem_cons hlt
      have hcnt := cnt_kids A vs[i]
      have hkge := cnt_ge A (kids A vs[i])
      have hdge := cnt_ge A (vs.drop (i + 1))
      rw [hdrop, List.map_cons, List.sum_cons] at hsum
      rw [List.length_drop] at hdge
      generalize hkd : kids A vs[i] = kd at hcnt hkge
      have e03 := e.trans e3
      refine ⟨fun σ2 H2 => ∃ m', m' < (allV A A.n).length - i ∧ ∃ (i : Nat) (td : Addr) (ps : List Addr) (vs : List (List Nat)) (y : Option V), σ2 = [some (.ref Y.p), some (.int (lim : Int)), some (.ref td), some (.int (i : Int)), y] ∧ Ex H H2 ∧ H td = none ∧ H2 td = some (.lst (ps.map V.ref)) ∧ Tupz H2 ps vs ∧ (∀ v ∈ vs, (∀ x ∈ v, 1 ≤ x ∧ x ≤ A.n) ∧ v.Pairwise (· < ·)) ∧ i ≤ vs.length ∧ i + ((vs.drop i).map (cnt A)).sum = (allV A A.n).length ∧ m' = (allV A A.n).length - i, fun σ2 H2 h => h, ?_⟩
      refine q_forZ (zs := kd) (ez_call (ea_cons (ev_var rfl) (ea_cons (ev_op (ev_var rfl) (ev_var rfl) (rv_ixL (SqL.of (e3 _ _ htd)) (v := .ref tv) (atI_nat (by rw [List.getElem?_map, htv]; rfl)))) ea_nil)) fun H4 e4 Q4 q4 => ⟨Y, A, tv, vs[i], rfl, ⟨fN, fB, fW, hB.ex (e03.trans e4)⟩, hG, e4 _ _ (e3 _ _ htv2), hv.1, hv.2, fun p ps H5 np e5 hp hT5 => q4 p ps H5 np e5 hp (by rw [← hkd]; exact hT5)⟩) fun kp kps H4 nkp e4 hkp hTk => ?_
      have htd4 := e4 _ _ (e3 _ _ htd)
      have nkt : kp ≠ td := (ne_of_none (e3 _ _ htd) nkp).symm
      have hkl := hTk.len
      refine ⟨fun j σ' H5 => ∃ y, σ' = [some (.ref Y.p), some (.int (lim : Int)), some (.ref td), some (.int (i : Int)), y] ∧ Ex H H5 ∧ Sm (· = td) H4 H5 ∧ H5 td = some (.lst ((ps ++ kps.take j).map V.ref)), ⟨_, rfl, e03.trans e4, Sm.refl _ _, by rw [List.take_zero, List.append_nil]; exact htd4⟩, fun j σ' H5 q => ?_, fun j t σ' H5 ht q => ?_, fun σ' H5 q => ?_⟩
      · obtain ⟨y, _, _, s5, _⟩ := q
        exact s5 _ _ hkp nkt
      · obtain ⟨y, rfl, e5, s5, h5⟩ := q
        have hj : j < kps.length := (List.getElem?_eq_some_iff.mp ht).1
        have hl5 : (ps ++ kps.take j).length = vs.length + j := by
          rw [List.length_append, hlen, List.length_take]
          omega
        refine q_when (b := false) (et_is (et_test (ev_op (ev_len (ev_var rfl) (SqL.of h5)) (ev_var rfl) rv_I0)) ?_) (fun h => by cases h) (fun _ H6 e6 => ?_)
        · rw [List.length_map, hl5]
          exact decide_eq_false (by omega)
        · refine s_app (e6 _ _ h5) (ev_var rfl) (ev_var rfl) (by rw [List.length_map, hl5]; omega) fun H7 e7 => ⟨_, rfl, Ex.mut ((e5.trans e6).trans e7) ntd, (((s5.ex e6).ex e7).upd (.inl rfl)), ?_⟩
          rw [upd_same, List.take_succ, ht]
          simp
      · obtain ⟨y, rfl, e5, s5, h5⟩ := q
        rw [List.take_length] at h5
        refine s_asg (v := .int ((i + 1 : Nat) : Int)) (ev_is (ev_op (ev_var rfl) ev_c rv_I0) (by rfl)) fun H6 e6 => ?_
        have tk : ∀ {ts : List Addr} {zs : List (List Nat)}, Tupz H4 ts zs → Tupz H6 ts zs := fun h => h.keep fun t _ xs q => e6 _ _ (s5 _ _ q (ne_of q htd4 (fun e => nomatch e)))
        refine ⟨(allV A A.n).length - (i + 1), by omega, i + 1, td, ps ++ kps, vs ++ kd, _, rfl, e5.trans e6, ntd, e6 _ _ h5, Tupz.app (tk ((hT.ex e3).ex e4)) (tk hTk), fun v hv' => ?_, by rw [List.length_append]; omega, ?_, rfl⟩
        · rcases List.mem_append.mp hv' with h | h
          · exact hvs v h
          · rw [← hkd] at h
            exact kids_ok hv.1 hv.2 h
        · rw [List.drop_append_of_le_length (by omega), List.map_append, sum_append]
          omega
    · have hge : ¬ i < vs.length := of_decide_eq_false hb
      have : i = vs.length := by omega
      subst this
      rw [List.drop_length, List.map_nil, List.sum_nil] at hsum
      exact s_ret (ev_var rfl) fun H4 e4 => k td _ H4 ntd ((e.trans e3).trans e4) (e4 _ _ (e3 _ _ htd)) (by rw [List.length_map, hlen]; omega)
  · obtain ⟨ds, h1, h2⟩ := F.binds1 (ps := ["book", "limit"]) 2 1 (fun e => nomatch e) rfl (fun T kV doc pm an cdv ct us its hu hi => match us, hu, its, hi with | [_, _], _, [_], _ => ⟨_, rfl, rfl⟩)
    cases h1
    exact h2
end
end K27
set_option Elab.async false
set_option linter.all false
set_option maxRecDepth 100000
set_option maxHeartbeats 1000000
/-! K27X: the defs that may raise. -/
namespace K27
open PySem PySem.Spec PyProof.Rows L2 Evl
local macro_rules | `(tactic| walk_at "rd") => `(tactic| repeat (first | refine ⟨_, _, rfl, rfl, ?_⟩ | refine ⟨_, rfl, ?_⟩ | refine ⟨_, _, _, _, rfl, rfl, SqL.of (by assumption), rfl, ?_⟩ | refine Or.inl ⟨_, rfl, ?_⟩ | refine ⟨Or.inl (by decide), ?_⟩ | refine ⟨(by decide : _ ≠ _), ?_⟩))
theorem passX {X : Cx} {E : XK} (hs : X.stack = X.env :: X.outer) (hf : X.env.frame = some X.env.locals) (hex : X.ex = []) {E₁ : Value → Shared → Prop}
    (hx : X.xe = fun e s' => wpAny (model X.prog X.w) X.A (leaving X.env e) (fun _ s'' => L2.CX X.prog X.w X.outer X.H_0 X.s_0 E e s'') E₁ s') : Passes (L2.CX X.prog X.w) X E := passes_call (takes_of hs hf hex hx) (fun _ _ _ _ h => h)
/-- o.m(e, ..), K by name -/
theorem pe_mK {X : Cx} {CX : CXT} {k : Nat} {ps : List Str} {sp : Sp} {E : XK} {m : Str} {pos apos : Pos} {e o : Expr} {es : List Expr} {ta : TE} {t : TA} {P : Program} {w : World} {K : PySem.W.Frag} {mg : Str → Option Value} {base : Heap}
    (T : Txt K mg) (hme : Meth K (He.ga K "Book") m (He.ma K (He.ga K "Book") m)) (F : OkC P w K mg base CX k ("Book", some m) ps sp) (hr : Room k X.A) (hx : Passes CX X E) (ho : PE X o ta) (ha : PA X (e :: es) t)
    {pl : Sem Bool} (hst : starEach (e :: es) X.env = (false, eval e X.env) :: starEach es X.env := by rfl) (hpl : (backTo pos (starEach es X.env)).any (·.1) = false := by rfl)
    (ht : eval (.Call (.Attribute o m apos) (e :: es) [] pos) X.env = (do
      let ov ← eval o X.env
      standAt apos.atName
      let (f, first) ← holding [ov] (getMethod ov m pl)
      callWith pos f first (backTo pos (starEach (e :: es) X.env)) (backToKw pos (keywordEach [] X.env))) := by rfl)
    (hE : X.prog = P ∧ X.w = w ∧ X.K = K ∧ X.mg = mg ∧ X.base = base := by exact ⟨rfl, rfl, rfl, rfl, rfl⟩) :
    PE X (.Call (.Attribute o m apos) (e :: es) [] pos) (tMeth (He.ga K "Book") m sp [] E ta t) := by
  obtain ⟨rfl, rfl, rfl, rfl, rfl⟩ := hE
  exact pe_m T hme F hr hx ho ha hst hpl ht
/-- an error of class x with its own dict d, new -/
def Err (K : PySem.W.Frag) (x : Str) (fs : List (Str × V)) (H : Hp) (E : XK) : Prop := ∀ d H', H d = none → Ex H H' → H' d = some (.xd fs) → E (.ref (He.ga K x)) (some d) H'
theorem Err.go {K : PySem.W.Frag} {x : Str} {fs : List (Str × V)} {H H1 : Hp} {E : XK} (h : Err K x fs H E) (e : Ex H H1) : Err K x fs H1 E := fun d H' hd e' h' => h d H' (fresh_back e hd) (e.trans e') h'
theorem del_ex {H H1 H2 : Hp} {a d : Addr} {o : HO} (e : Ex H H2) (ha : H a = none) (hd : H d = none) : Ex H (upd (L2.del H2 a) d o) := fun b u hb => by
  rw [upd_ne (ne_of_none hb hd), L2.del_ne (ne_of_none hb ha)]
  exact e b u hb
section
variable {w : World} {K : PySem.W.Frag} {mg : Str → Option Value} {base : Heap}
theorem mk_U {σ : L2.St} {H : Hp} {te : TE} {v : V} {E : XK} (h : Ev te σ H v) (k : Err K "UnknownPatch" [("number", v)] H E) : tMkO (He.ga K "UnknownPatch") (spX1 (He.ga K "UnknownPatch") "number") [] (tCons te tNil) σ H (fun cls d H' => E cls d H') :=
  h H (Ex.refl _) _ fun H1 e1 => ⟨by show 1 ≤ 1000; decide, fun a ha => ⟨a, v, rfl, upd_same, fun dx hdx hne => ⟨rfl, dx, _, upd_same, by rw [upd_ne hne]; exact upd_same, by
    have : H1 dx = none := by rw [upd_ne hne] at hdx; exact hdx
    exact this, by
    have hd1 : H1 dx = none := by rw [upd_ne hne] at hdx; exact hdx
    refine k dx _ (fresh_back e1 hd1) ?_ upd_same
    refine e1.trans (del_ex (H1 := H1) (fun b u hb => ?_) ha hd1)
    rw [upd_ne (ne_of_none hb ha), upd_ne (ne_of_none hb hd1), upd_ne (ne_of_none hb ha)]
    exact hb⟩⟩⟩
theorem mk_N {σ : L2.St} {H : Hp} {te tf : TE} {v u : V} {E : XK} (h : Ev te σ H v) (h' : Ev tf σ H u) (k : Err K "NotATree" [("second", u), ("first", v)] H E) : tMkO (He.ga K "NotATree") (spX2 (He.ga K "NotATree") "first" "second") [] (tCons te (tCons tf tNil)) σ H (fun cls d H' => E cls d H') :=
  h H (Ex.refl _) _ fun H0 e0 => h' H0 e0 _ fun H1 e1 => ⟨by show 2 ≤ 1000; decide, fun a ha => ⟨a, v, u, rfl, upd_same, fun dx hdx hne => ⟨rfl, dx, _, by rw [upd_ne hne.symm]; exact upd_same, upd_same, by
    have : H1 dx = none := by rw [upd_ne hne] at hdx; exact hdx
    exact this, by
    have hd1 : H1 dx = none := by rw [upd_ne hne] at hdx; exact hdx
    refine k dx _ (fresh_back (e0.trans e1) hd1) ?_ upd_same
    refine (e0.trans e1).trans (del_ex (H1 := H1) (fun b u hb => ?_) ha hd1)
    rw [upd_ne (ne_of_none hb hd1), upd_ne (ne_of_none hb ha), upd_ne (ne_of_none hb hd1), upd_ne (ne_of_none hb ha)]
    exact hb⟩⟩⟩
def spCheckX (K : PySem.W.Frag) : Sp := fun vs H Q E => ∃ (a l : Addr) (xs : List V) (n : Int), vs = [.ref a, .int n] ∧ BkN K H a l xs ∧ xs.length ≤ 1000 ∧ ((1 ≤ n ∧ n ≤ xs.length) → RetV .non H Q) ∧ (¬ (1 ≤ n ∧ n ≤ xs.length) → Err K "UnknownPatch" [("number", .int n)] H E)
theorem ok_Bcheck_numberX (T : Txt K mg) : OkC PP w K mg base (L2.CX PP w) 3 ("Book", some "check_number") ["self", "number"] (spCheckX K) :=
  okX T.F_Bcheck_number sc_Bcheck_number (fun _ _ _ _ _ _ us hl => match us, hl with | [_, _], _ => rfl) (by rintro vs H Q E ⟨a, l, xs, n, rfl, _⟩; rfl) fun f cdv A outer s0 H vs Q E hr h => by
    obtain ⟨a, l, xs, n, rfl, hb, hz, k1, k2⟩ := h
    refine ⟨_, (pss_one (ps_if (pt_not (pt_chain op_le op_le pe_int (pv 1) (pe_callB (call_lenK (K := K)) (by rfl) T.z_len (by decide +kernel) (pa_cons (pe_fldK (K := K) (pv 0) rfl) pa_nil)))) (pss_one (ps_raise rfl (takes_of rfl rfl rfl rfl) (pmk_U rfl T (hr.mono (by decide)) (pa_cons (pv 1) pa_nil)))) pss_nil)), ?_⟩
    have hb' := hb
    obtain ⟨dx, fs, q1, q2, q3⟩ := hb'
    refine s_when (b := !(decide (1 ≤ n) && decide (n ≤ (xs.length : Int)))) (et_not (et_chain ev_c (ev_var rfl) (ev_len (ev_nums T (ev_var rfl) hb) (SqL.of q3)))) (fun h H1 e1 => ?_) (fun h H1 e1 => ?_)
    · refine mk_U (ev_var rfl) ((k2 fun q => ?_).go e1)
      rw [decide_eq_true q.1, decide_eq_true q.2] at h
      cases h
    · refine k1 ?_ H1 e1
      rw [Bool.not_eq_false', Bool.and_eq_true, decide_eq_true_iff, decide_eq_true_iff] at h
      exact h
theorem sc_need_tree : FnScope ["book", "pair"] ["book"] (defScope s_need_tree) := ⟨rfl, rfl, rfl, by decide +kernel, rfl, by decide +kernel, by decide +kernel⟩
/-- what such a def answers, by the book's least independent pair -/
def NT (K : PySem.W.Frag) (A : Ab) (R : Prop) (H : Hp) (E : XK) : Prop := ∀ o, LeastP A A.n o → (o = none → R) ∧ ∀ q, o = some q → Err K "NotATree" [("second", .int (q.2 : Int)), ("first", .int (q.1 : Int))] H E
def spNeedTree (K : PySem.W.Frag) : Sp := fun vs H Q E => ∃ (Y : BLay) (A : Ab), vs = [.ref Y.p] ∧ BkE K H Y A A.n ∧ Good A ∧ NT K A (RetV .non H Q) H E
theorem ok_need_tree (T : Txt K mg) : OkC PP w K mg base (L2.CX PP w) 4 ("need_tree", none) ["book"] (spNeedTree K) :=
  okX T.F_need_tree sc_need_tree (fun _ _ _ _ _ _ us hl => match us, hl with | [_], _ => rfl) (by rintro vs H Q E ⟨Y, A, rfl, _⟩; rfl) fun f cdv A0 outer s0 H vs Q E hr h => by
    obtain ⟨Y, A, rfl, ⟨fN, fB, fW, hB⟩, hG, k⟩ := h
    refine ⟨_, (pss_cons (ps_set (i := 1) sc_need_tree.nd rfl (Or.inl rfl) (pe_c (ok_independent_pair T) (hr.mono (by decide)) T.g_independent_pair pass0 (pa_cons (pv 0) pa_nil))) (pss_one (ps_if (pt_cmpR op_notN (pv 1) pe_non (nomark _)) (pss_one (ps_raise rfl (takes_of rfl rfl rfl rfl) (pmk_N rfl T (hr.mono (by decide)) (pa_cons (pe_ix (ix_tupK (K := K)) (pv 1) pe_int (fun _ _ => rfl)) (pa_cons (pe_ix (ix_tupK (K := K)) (pv 1) pe_int (fun _ _ => rfl)) pa_nil))))) pss_nil))), ?_⟩
    refine q_do ⟨_, rfl, Y, A, rfl, ⟨fN, fB, fW, hB⟩, hG, fun o hL => ⟨fun ho => ?_, fun q ho => ?_⟩⟩
    · intro H1 e1
      exact s_when (b := false) (et_test (fun H2 e2 Q2 q2 => ⟨_, rfl, rfl, q2 H2 (Ex.refl _)⟩)) (fun h => by cases h) fun _ H2 e2 => (k o hL).1 ho H2 (e1.trans e2)
    · intro p H1 np e1 hp
      refine s_when (b := true) (et_test (fun H2 e2 Q2 q2 => ⟨_, rfl, rfl, q2 H2 (Ex.refl _)⟩)) (fun _ H2 e2 => ?_) (fun h => by cases h)
      exact mk_N (ev_op (ev_var rfl) ev_c (rv_ixT (SqT.of (e2 _ _ hp)) rfl)) (ev_op (ev_var rfl) ev_c (rv_ixT (SqT.of (e2 _ _ hp)) rfl)) (((k o hL).2 q ho).go (e1.trans e2))
theorem NT.imp {A : Ab} {R R' : Prop} {H H' : Hp} {E : XK} (k : NT K A R H E) (e : Ex H H') (h : R → R') : NT K A R' H' E := fun o hL => ⟨fun ho => h ((k o hL).1 ho), fun q ho => ((k o hL).2 q ho).go e⟩
theorem q_doD {te : TE} {tz : TS} {D : Ends} {σ : L2.St} {H : Hp} (h : te σ H (fun v H1 => tz D σ H1)) : tSeq (tDrop te) tz D σ H := h
theorem sc_tree_versions : FnScope ["book", "number"] ["book"] (defScope s_tree_versions) := ⟨rfl, rfl, rfl, by decide +kernel, rfl, by decide +kernel, by decide +kernel⟩
def spTreeV (K : PySem.W.Frag) : Sp := fun vs H Q E => ∃ (Y : BLay) (A : Ab), vs = [.ref Y.p] ∧ BkE K H Y A A.n ∧ Good A ∧ NT K A (RetZ (due A A.n) H Q) H E
theorem ok_tree_versions (T : Txt K mg) : OkC PP w K mg base (L2.CX PP w) 5 ("tree_versions", none) ["book"] (spTreeV K) :=
  okX T.F_tree_versions sc_tree_versions (fun _ _ _ _ _ _ us hl => match us, hl with | [_], _ => rfl) (by rintro vs H Q E ⟨Y, A, rfl, _⟩; rfl) fun f cdv A0 outer s0 H vs Q E hr h => by
    obtain ⟨Y, A, rfl, ⟨fN, fB, fW, hB⟩, hG, k⟩ := h
    refine ⟨_, (pss_cons (ps_expr (pe_c (ok_need_tree T) (hr.mono (by decide)) T.g_need_tree (passX rfl rfl rfl rfl) (pa_cons (pv 0) pa_nil))) (pss_one (ps_ret (pe_op op_cat (pe_lst (pa_cons (pe_tup pa_nil) pa_nil)) (pe_lc (own := [("number", 1)]) (g := gName 1) (by rfl) sc_tree_versions.nd (pi_book T (ok_Biter T) (hr.mono (by decide)) (pv 0)) (blkOk_by (by rfl)) (fun _ _ _ _ _ => pg_name (i := 1) sc_tree_versions.nd rfl (by first | exact Or.inl rfl | exact Or.inr rfl)) (fun _ _ _ _ _ => pts_nil) (fun _ _ _ _ _ => (pe_op (op_catK (K := K)) (pe_mK T T.me_required (ok_Brequired T) (hr.mono (by decide)) pass0 (pv 0) (pa_cons (pv 1) pa_nil)) (pe_tup (pa_cons (pv 1) pa_nil))))))))), ?_⟩
    refine q_doD ⟨_, rfl, Y, A, rfl, ⟨fN, fB, fW, hB⟩, hG, k.imp (Ex.refl _) fun hz => ?_⟩
    intro H1 e1
    have hB1 := hB.ex e1
    have hnm := hB.nmax
    have hfl : ∀ m : Nat, ((List.range m).filter fun _ => true).length = m := fun m => by rw [List.filter_eq_self.mpr (fun _ _ => rfl), List.length_range]
    have ed : due A A.n = [[]] ++ (((List.range (nv (List.range' 1 A.n)).length).filter fun _ => true).map fun i => asc A.n (A.R (i + 1)) ++ [i + 1]) := by
      have hm : ((List.range' 1 A.n).map fun j => asc A.n (A.R j) ++ [j]) = (List.range A.n).map fun i => asc A.n (A.R (i + 1)) ++ [i + 1] := by
        apply List.ext_getElem
        · simp
        · intro i h1 h2
          simp only [List.getElem_map, List.getElem_range', List.getElem_range]
          rw [show 1 + 1 * i = i + 1 by omega]
      unfold due
      rw [List.filter_eq_self.mpr (fun _ _ => rfl), nv_len, List.length_range', hm]
      rfl
    refine s_retZ (vs := due A A.n) ?_ ?_
    · rw [ed]
      refine ez_cat ez_unit (ez_lcB (fun _ => true) (fun i => asc A.n (A.R (i + 1)) ++ [i + 1]) (ev_var rfl) hB1.nums (by simp; omega) (fun _ => rfl) (fun i x hx => fun H2 _ Q q => q H2 (Ex.refl _)) (fun i x hx _ => ?_)) (by rw [List.length_map, hfl, nv_len, List.length_range']; show 1 + A.n ≤ 50000; omega)
      obtain ⟨n, hn, rfl⟩ := nv_get hx
      have hni : n = i + 1 ∧ i < A.n := by
        obtain ⟨h2, h3⟩ := List.getElem?_eq_some_iff.mp hn
        rw [List.length_range'] at h2
        rw [List.getElem_range'] at h3
        omega
      obtain ⟨rfl, hin⟩ := hni
      refine ew_snoc (ew_eu (eu_meth (ev_var rfl) hB1.p rfl (ea_cons (ev_var rfl) ea_nil) fun H2 e2 Q2 q2 => ⟨Y, A, A.n, i + 1, rfl, ⟨fN, fB, fW, hB1.ex e2⟩, by omega, by omega, fun p H3 np e3 hp => q2 p H3 np e3 hp⟩)) (ew_eu (eu_tup (ea_cons (ev_var rfl) ea_nil) (by show 1 ≤ 100000; decide))) ?_
      have := asc_len A.n (A.R (i + 1))
      omega
    · exact fun p ps H2 np e2 hp hT => hz p ps H2 (fresh_back e1 np) (e1.trans e2) hp hT
theorem sc_tree_parent : FnScope ["book", "number"] ["book", "number"] (defScope s_tree_parent) := ⟨rfl, rfl, rfl, by decide +kernel, rfl, by decide +kernel, by decide +kernel⟩
def spTreeP (K : PySem.W.Frag) : Sp := fun vs H Q E => ∃ (Y : BLay) (A : Ab) (n : Int), vs = [.ref Y.p, .int n] ∧ BkE K H Y A A.n ∧ Good A ∧ (¬ (1 ≤ n ∧ n ≤ A.n) → Err K "UnknownPatch" [("number", .int n)] H E) ∧ ((1 ≤ n ∧ n ≤ A.n) → NT K A (RetV (.int ((lastOr (asc A.n (A.R n.toNat)) : Nat) : Int)) H Q) H E)
theorem ok_tree_parent (T : Txt K mg) : OkC PP w K mg base (L2.CX PP w) 5 ("tree_parent", none) ["book", "number"] (spTreeP K) :=
  okX T.F_tree_parent sc_tree_parent (fun _ _ _ _ _ _ us hl => match us, hl with | [_, _], _ => rfl) (by rintro vs H Q E ⟨Y, A, n, rfl, _⟩; rfl) fun f cdv A0 outer s0 H vs Q E hr h => by
    obtain ⟨Y, A, n, rfl, ⟨fN, fB, fW, hB⟩, hG, k1, k2⟩ := h
    refine ⟨_, (pss_cons (ps_expr (pe_m T T.me_check_number (ok_Bcheck_numberX T) (hr.mono (by decide)) (passX rfl rfl rfl rfl) (pv 0) (pa_cons (pv 1) pa_nil))) (pss_cons (ps_expr (pe_c (ok_need_tree T) (hr.mono (by decide)) T.g_need_tree (passX rfl rfl rfl rfl) (pa_cons (pv 0) pa_nil))) (pss_one (ps_ret (pe_callB (call_max2 rfl) (by rfl) T.z_max (by decide +kernel) (pa_cons pe_int (pa_cons (pe_op op_sub (pe_bits (pe_m T T.me_needs_mask (ok_Bneeds_mask T) (hr.mono (by decide)) pass0 (pv 0) (pa_cons (pv 1) pa_nil))) pe_int) pa_nil))))))), ?_⟩
    have hnm := hB.nmax
    have hl : ((nv (List.range' 1 A.n)).length : Int) = A.n := by simp
    refine ⟨_, rfl, Y.p, _, _, rfl, hB.p, rfl, _, rfl, Y.p, Y.ln, _, n, rfl, hB.nums, by simp; omega, fun hv => ?_, fun hv => k1 (by rw [hl] at hv; exact hv)⟩
    rw [hl] at hv
    intro H1 e1
    have hB1 := hB.ex e1
    refine ⟨_, rfl, Y, A, rfl, ⟨fN, fB, fW, hB1⟩, hG, (k2 hv).imp e1 fun hz => ?_⟩
    intro H2 e2
    obtain ⟨m, rfl⟩ : ∃ m : Nat, n = (m : Int) := ⟨n.toNat, by omega⟩
    rw [Int.toNat_natCast] at hz
    have hB2 := hB1.ex e2
    have hm1 : 1 ≤ m := by omega
    have hm2 : m ≤ A.n := by omega
    refine s_ret (ev_is (ev_max2 ev_c (ev_op (ev_bits (ev_needsM (ev_var rfl) (ev_var rfl) hB2 hm1 hm2)) ev_c rv_I0)) ?_) fun H3 e3 => hz H3 ((e1.trans e2).trans e3)
    have hbt := hB.be m hm2
    rcases List.eq_nil_or_concat (asc A.n (A.R m)) with h0 | ⟨pre, k, h0⟩
    · rw [h0]
      have : fN m = 0 := zero_of_bits hbt fun i => by
        show A.R m i = false
        cases q : A.R m i with
        | false => rfl
        | true =>
          have a := hG.r_lt m i q
          have : i ∈ asc A.n (A.R m) := mem_asc.mpr ⟨⟨a.1, by omega⟩, q⟩
          rw [h0] at this
          cases this
      rw [this]
      rfl
    · rw [List.concat_eq_append] at h0
      rw [h0, lastOr_snoc]
      have hk : k ∈ asc A.n (A.R m) := by rw [h0]; simp
      have e : Builtin.Int.intBits ((fN m : Nat) : Int) = k + 1 := bLen_top (by rw [hbt k]; exact (mem_asc.mp hk).2) fun i hi => by
        rw [hbt i]
        show A.R m i = false
        cases q : A.R m i with
        | false => rfl
        | true =>
          exfalso
          have a := hG.r_lt m i q
          have hin : i ∈ asc A.n (A.R m) := mem_asc.mpr ⟨⟨a.1, by omega⟩, q⟩
          have hs := asc_sorted A.n (A.R m)
          rw [h0] at hin hs
          rcases List.mem_append.mp hin with h | h
          · have := (List.pairwise_append.mp hs).2.2 i h k (by simp)
            omega
          · have : i = k := by simpa using h
            omega
      rw [e]
      show V.int (if ((k + 1 : Nat) : Int) - 1 > 0 then ((k + 1 : Nat) : Int) - 1 else 0) = _
      congr 1
      split <;> omega
end
end K27
set_option Elab.async false
set_option linter.all false
set_option maxRecDepth 100000
set_option maxHeartbeats 1000000
/-! K27Told: what the law is told, errors caught. -/
namespace K27
open PySem PySem.Spec PyProof.Rows L2 Evl
local macro_rules | `(tactic| walk_at "rd") => `(tactic| repeat (first | refine ⟨_, _, rfl, rfl, ?_⟩ | refine ⟨_, rfl, ?_⟩ | refine ⟨_, _, _, _, rfl, rfl, SqL.of (by assumption), rfl, ?_⟩ | refine Or.inl ⟨_, rfl, ?_⟩ | refine ⟨Or.inl (by decide), ?_⟩ | refine ⟨(by decide : _ ≠ _), ?_⟩))
def rIsE1 (K : PySem.W.Frag) (a : Addr) (cls : Value) (d : Option Addr) : List V → Hp → VK → Prop := fun xs H Q => ∃ (D : Addr) (c : V) (cv : Value) (b : Bool) (dd : Addr) (fs : List (Str × V)), ExcC K D ∧ cls = .ref D ∧ d = some dd ∧ H dd = some (.xd fs) ∧ xs = [.ref a, c] ∧ (∀ u, RelV c u → u = cv) ∧ PySem.W.kitOne K (.ref D) cv = some b ∧ Q (.bl b) H
def rIsET (K : PySem.W.Frag) (a : Addr) (cls : Value) (d : Option Addr) : List V → Hp → VK → Prop := fun xs H Q => ∃ (D tp : Addr) (cs : List V) (us : List Value) (b : Bool) (dd : Addr) (fs : List (Str × V)), ExcC K D ∧ cls = .ref D ∧ d = some dd ∧ H dd = some (.xd fs) ∧ xs = [.ref a, .ref tp] ∧ H tp = some (.tup cs) ∧ Paired ClsV cs us ∧ PySem.W.kitAny K (.ref D) us = some b ∧ Q (.bl b) H
section
variable {X : Cx} {a : Addr} {oe : Obj} {cls : Value} {d : Option Addr} {pn : List (Addr × Obj)} {K : PySem.W.Frag}
theorem inst_of {σ : L2.St} {H : Hp} {s : Shared} {pins : List (Addr × Obj)} {D dd : Addr} {fs : List (Str × V)} (hz : Zc (.ref D) (some dd) oe) (hf : ∃ vs, oe.data = .fields vs) (I : Inv (X.suite a ((a, oe) :: pn)) pins σ H s) (hd : H dd = some (.xd fs)) : ∃ od, PySem.W.InstAt s.heap a oe D (some od) := by
  obtain ⟨ha, _⟩ := I.pin (a, oe) (List.mem_append_left _ List.mem_cons_self)
  obtain ⟨vs, hv⟩ := hf
  have hx : ObjOk X.prog X.w H s.heap dd (.xd fs) := I.hok dd _ hd
  obtain ⟨mA, hns, hr⟩ := hx
  obtain ⟨od, ho, hl⟩ := lookIn_ns hns
  exact ⟨od, ha, hz.1, by unfold PySem.W.notCls; rw [hv] <;> rfl, by rw [hz.2]; exact ho⟩
theorem call_isE1 (hz : Zc cls d oe) (hf : ∃ vs, oe.data = .fields vs) (hK : X.K = K := by rfl) : CallR (X.suite a ((a, oe) :: pn)) (.builtin "isinstance") (rIsE1 K a cls d) := by
  subst hK
  intro pins s σ H xs us Q I r h
  obtain ⟨D, c, cv, b, dd, fs, C, rfl, rfl, hd, rfl, hcv, e, q⟩ := h
  obtain ⟨u1, u2, rfl, r1, r2⟩ := vals2 r
  cases (show u1 = Value.ref a from r1)
  have ec := hcv _ r2
  subst ec
  obtain ⟨od, J⟩ := inst_of hz hf I hd
  have hcl : (PySem.W.clsIn X.K D).isSome = true := by
    obtain ⟨cd, hc, _⟩ := PySem.W.any_some C.hd
    rw [hc]; rfl
  exact PySem.W.kia_one (PySem.W.kitx_exc hcl C.hg C.hk C.hs C.ha C.hn C.ht C.hm) I.kIn J e (fun z => nomatch z) fun tk => ⟨.bl b, H, I.kept (t' := tk) fun _ _ z => z, rfl, q⟩
theorem call_isET (hz : Zc cls d oe) (hf : ∃ vs, oe.data = .fields vs) (hK : X.K = K := by rfl) : CallR (X.suite a ((a, oe) :: pn)) (.builtin "isinstance") (rIsET K a cls d) := by
  subst hK
  intro pins s σ H xs us Q I r h
  obtain ⟨D, tp, cs, ws, b, dd, fs, C, rfl, rfl, hd, rfl, hT, k, e, q⟩ := h
  obtain ⟨u1, u2, rfl, r1, r2⟩ := vals2 r
  cases (show u1 = Value.ref a from r1)
  cases (show u2 = Value.ref tp from r2)
  obtain ⟨od, J⟩ := inst_of hz hf I hd
  have hcl : (PySem.W.clsIn X.K D).isSome = true := by
    obtain ⟨cd, hc, _⟩ := PySem.W.any_some C.hd
    rw [hc]; rfl
  obtain ⟨_, its, rv, o, h1, h2, n, h3⟩ := (show ObjOk X.prog X.w H s.heap tp (.tup cs) from I.hok tp _ hT)
  obtain ⟨cls2, dd2, data2, sl2⟩ := o
  dsimp only at h2 h3
  subst h2 h3
  have e2 := ClsV.all k rv
  subst e2
  exact PySem.W.kia_tup (PySem.W.kitx_exc hcl C.hg C.hk C.hs C.ha C.hn C.ht C.hm) I.kIn J h1 e (fun z => nomatch z) fun tk => ⟨.bl b, H, I.kept (t' := tk) fun _ _ z => z, rfl, q⟩
end
section
variable {K : PySem.W.Frag} {mg : Str → Option Value}
theorem exc_of {x : Str} (h : exIs K x = true) : ExcC K (He.ga K x) := by
  unfold exIs at h
  obtain ⟨h1, h⟩ := He.ba h
  obtain ⟨h2, h⟩ := He.ba h
  obtain ⟨h3, h⟩ := He.ba h
  obtain ⟨h4, h⟩ := He.ba h
  obtain ⟨h5, h⟩ := He.ba h
  obtain ⟨h6, h⟩ := He.ba h
  obtain ⟨h7, h8⟩ := He.ba h
  exact ⟨He.eqO_ok h1, He.eqO_ok h2, of_decide_eq_true h3, h4, He.eqO_ok h5, He.eqO_ok h6, of_decide_eq_true h7, of_decide_eq_true h8⟩
structure KitF (K : PySem.W.Frag) (x : Str) : Prop where
  c : ExcC K (He.ga K x)
  live : PySem.W.exmOne K (.ref (He.ga K x)) (.ref (He.ga K "LivecopyError")) = some true
  val : PySem.W.kitOne K (.ref (He.ga K x)) (.type "ValueError") = some true
  oth : ∀ y ∈ exNames, PySem.W.kitOne K (.ref (He.ga K x)) (.ref (He.ga K y)) = some false
  nt : PySem.W.kitOne K (.ref (He.ga K x)) (.ref (He.ga K "NotATree")) = some (decide (x = "NotATree"))
  up : PySem.W.kitOne K (.ref (He.ga K x)) (.ref (He.ga K "UnknownPatch")) = some (decide (x = "UnknownPatch"))
theorem kit_of' {x : Str} (h1 : exIs K x = true) (h : exKit K x = true) : KitF K x := by
  unfold exKit at h
  obtain ⟨a, h⟩ := He.ba h
  obtain ⟨b, h⟩ := He.ba h
  obtain ⟨c, h⟩ := He.ba h
  exact ⟨exc_of h1, of_decide_eq_true a, of_decide_eq_true b, fun y hy => of_decide_eq_true (List.all_eq_true.mp c y hy), of_decide_eq_true (List.all_eq_true.mp h "NotATree" (.head _)), of_decide_eq_true (List.all_eq_true.mp h "UnknownPatch" (.tail _ (.head _)))⟩
theorem Txt.kU (T : Txt K mg) : KitF K "UnknownPatch" := by
  have h := T.e
  unfold exB at h
  obtain ⟨_, h⟩ := He.ba h
  obtain ⟨_, h⟩ := He.ba h
  obtain ⟨a, h⟩ := He.ba h
  obtain ⟨_, h⟩ := He.ba h
  obtain ⟨b, h⟩ := He.ba h
  exact kit_of' a b
theorem Txt.kN (T : Txt K mg) : KitF K "NotATree" := by
  have h := T.e
  unfold exB at h
  obtain ⟨_, h⟩ := He.ba h
  obtain ⟨_, h⟩ := He.ba h
  obtain ⟨_, h⟩ := He.ba h
  obtain ⟨a, h⟩ := He.ba h
  obtain ⟨_, h⟩ := He.ba h
  obtain ⟨b, h⟩ := He.ba h
  exact kit_of' a b
theorem xfc_of {C : Addr} (h : ExcC K C) : XfC K C := ⟨h.hg, h.hk, h.hs, h.hd⟩
end
end K27
set_option Elab.async false
set_option linter.all false
set_option maxRecDepth 100000
set_option maxHeartbeats 1000000
/-! K27Told2: told. -/
namespace K27
open PySem PySem.Spec PyProof.Rows L2 Evl
local macro_rules | `(tactic| walk_at "rd") => `(tactic| repeat (first | refine ⟨_, _, rfl, rfl, ?_⟩ | refine ⟨_, rfl, ?_⟩ | refine ⟨_, _, _, _, rfl, rfl, SqL.of (by assumption), rfl, ?_⟩ | refine Or.inl ⟨_, rfl, ?_⟩ | refine ⟨Or.inl (by decide), ?_⟩ | refine ⟨(by decide : _ ≠ _), ?_⟩))
section
variable {X : Cx} {CX : CXT} {k : Nat} {ps : List Str} {sp : Sp} {E : L2.St → XK} {x : Str} {p pos : Pos} {e : Expr} {es : List Expr} {t : TA}
/-- f(e, ..), f a def of the text that may raise, in a try -/
theorem pe_cS (F : OkC X.prog X.w X.K X.mg X.base CX k (x, none) ps sp) (hr : Room k X.A) (hm : X.mg x = some (.ref (He.ga X.K x))) (hx : ∀ σ, PassesAt CX X σ (E σ)) (ha : PA X (e :: es) t) (hg : Gl X x := by rfl)
    (hdb : (x == ("__debug__" : Str)) = false := by decide) (he : starEach (e :: es) X.env = (false, eval e X.env) :: starEach es X.env := by rfl) (hpl : (backTo pos (starEach es X.env)).any (·.1) = false := by rfl) :
    PE X (.Call (.Name x p) (e :: es) [] pos) (tCallS sp E t) := by
  obtain ⟨fd, F, hb, hk⟩ := F
  exact pe_callS F hr hg hm hk hb hx ha hdb he hpl
theorem pe_xfK {K : PySem.W.Frag} {a C : Addr} {oe : Obj} {cls : Value} {d : Option Addr} {pn : List (Addr × Obj)} {e : Expr} {te : TE} {pos : Pos} {n : Str} (T : XfC K C) (hno : PySem.W.findIn K (.ref C) n = some none)
    (hz : Zc cls d oe) (hf : ∃ vs, oe.data = .fields vs) (he : PE (X.suite a ((a, oe) :: pn)) e te) (hb : attributeBase e n X.env (eval e X.env) = eval e X.env := by rfl) (hK : X.K = K := by rfl) :
    PE (X.suite a ((a, oe) :: pn)) (.Attribute e n pos) (tXf a cls d C n te) := by
  subst hK
  exact pe_xf T hno hz hf he hb
end
section
variable {w : World} {K : PySem.W.Frag} {mg : Str → Option Value} {base : Heap}
def RetB (c : Int) (l : List Int) (H : Hp) (Q : VK) : Prop := ∀ p t H', H p = none → Ex H H' → H' p = some (.lst [.int c, .ref t]) → H' t = some (.tup (l.map V.int)) → Q (.ref p) H'
def tSuite (K : PySem.W.Frag) (a : Addr) (cls : Value) (d : Option Addr) : TS :=
  tSeq (tIfS (tOr (tNot (tB (tCB (rIsE1 K a cls d) (tCons (tVar 3) (tCons (tC (V.ty "ValueError")) tNil)))))
      (tB (tCB (rIsET K a cls d) (tCons (tVar 3) (tCons (tTup (tCons (tC (V.ref (He.ga K "BadCell"))) (tCons (tC (V.ref (He.ga K "EmptyPatch"))) (tCons (tC (V.ref (He.ga K "DuplicateCell"))) (tCons (tC (V.ref (He.ga K "BadSize"))) (tCons (tC (V.ref (He.ga K "Conflict"))) tNil)))))) tNil)))))
    (tRet (tLst (tCons (tC (V.int 3)) (tCons (tTup tNil) tNil)))) tNext)
  (tSeq (tIfS (tOr (tB (tCB (rIsET K a cls d) (tCons (tVar 3) (tCons (tTup (tCons (tC (V.ref (He.ga K "NotAVersion"))) (tCons (tC (V.ref (He.ga K "NotInside"))) (tCons (tC (V.ref (He.ga K "TooMany"))) tNil)))) tNil))))
      (tTest (tOp rEq (tCB (rIsE1 K a cls d) (tCons (tVar 3) (tCons (tC (V.ref (He.ga K "NotATree"))) tNil))) (tCB (rIsE1 K a cls d) (tCons (tVar 3) (tCons (tC (V.ref (He.ga K "UnknownPatch"))) tNil))))))
    (tRet (tLst (tCons (tC (V.int 3)) (tCons (tTup tNil) tNil)))) tNext)
  (tSeq (tIfS (tB (tCB (rIsE1 K a cls d) (tCons (tVar 3) (tCons (tC (V.ref (He.ga K "NotATree"))) tNil))))
    (tRet (tLst (tCons (tC (V.int 1)) (tCons (tTup (tCons (tXf a cls d (He.ga K "NotATree") "first" (tVar 3)) (tCons (tXf a cls d (He.ga K "NotATree") "second" (tVar 3)) tNil))) tNil)))) tNext)
  (tRet (tLst (tCons (tC (V.int 2)) (tCons (tTup (tCons (tXf a cls d (He.ga K "UnknownPatch") "number" (tVar 3)) tNil)) tNil))))))
section
variable {σ : L2.St} {H : Hp} {a d : Addr} {x : Str} {fs : List (Str × V)} {D : Ends} {v : V}
theorem ev_isE1 {c : V} {cv : Value} {b : Bool} (F : KitF K x) (h3 : σ[3]? = some (some (.ref a))) (hd : H d = some (.xd fs)) (hcv : ∀ u, RelV c u → u = cv) (hk : PySem.W.kitOne K (.ref (He.ga K x)) cv = some b) : Ev (tCB (rIsE1 K a (.ref (He.ga K x)) (some d)) (tCons (tVar 3) (tCons (tC c) tNil))) σ H (.bl b) := fun H1 e Q q =>
  ⟨_, h3, _, c, cv, b, d, fs, F.c, rfl, rfl, e _ _ hd, rfl, hcv, hk, q H1 (Ex.refl _)⟩
theorem kitAny_no {t : Value} : ∀ {ys : List Str}, (∀ y ∈ ys, PySem.W.kitOne K t (.ref (He.ga K y)) = some false) → PySem.W.kitAny K t (ys.map fun y => Value.ref (He.ga K y)) = some false
  | [], _ => kitAny_nil
  | y :: ys, h => kitAny_cons (h y (.head _)) (fun _ => kitAny_no fun z hz => h z (.tail _ hz)) (fun q => nomatch q)
theorem paired_cls : ∀ ys : List Str, Paired ClsV (ys.map fun y => V.ref (He.ga K y)) (ys.map fun y => Value.ref (He.ga K y))
  | [] => .nil
  | y :: ys => .cons (.own _) (paired_cls ys)
theorem ev_isET {ta : TA} (F : KitF K x) (ys : List Str) (hy : ∀ y ∈ ys, y ∈ exNames) (hl : ys.length ≤ 100) (h3 : σ[3]? = some (some (.ref a))) (hd : H d = some (.xd fs)) (ha : EvA ta σ H (ys.map fun y => V.ref (He.ga K y))) : Ev (tCB (rIsET K a (.ref (He.ga K x)) (some d)) (tCons (tVar 3) (tCons (tTup ta) tNil))) σ H (.bl false) := fun H1 e Q q =>
  ⟨_, h3, eu_tup ha (by rw [List.length_map]; omega) H1 e _ fun p H2 np e2 hp => ⟨_, p, _, _, false, d, fs, F.c, rfl, rfl, e2 _ _ (e _ _ hd), rfl, hp, paired_cls ys, kitAny_no fun y h => F.oth y (hy y h), q H2 e2⟩⟩
theorem ev_xf {C : Addr} {f : Str} (h3 : σ[3]? = some (some (.ref a))) (hd : H d = some (.xd fs)) (hl : fs.lookup f = some v) : Ev (tXf a (.ref C) (some d) C f (tVar 3)) σ H v := fun H1 e Q q => ⟨_, h3, rfl, rfl, d, fs, v, rfl, e _ _ hd, hl, q H1 (Ex.refl _)⟩
/-- a list of a number and a new tuple -/
theorem el_ct {ta : TA} {c : Int} {l : List Int} (h : EvU (tTup ta) σ H (l.map V.int)) (k : RetB c l H D.rt) : tRet (tLst (tCons (tC (.int c)) (tCons (tTup ta) tNil))) D σ H := by
  show tTup ta σ H (fun x H1 => (2 ≤ sizeLine ∧ ∀ p, H1 p = none → D.rt (.ref p) (upd H1 p (.lst [.int c, x]))))
  exact h H (Ex.refl _) _ fun t H1 nt e1 ht => ⟨sz_of (by show 2 ≤ 100000; decide), fun p hp => k p t _ (fresh_back e1 hp) (e1.trans (Ex.new hp)) upd_same (Ex.new hp _ _ ht)⟩
theorem RetB.go {c : Int} {l : List Int} {H1 : Hp} {Q : VK} (k : RetB c l H Q) (e : Ex H H1) : RetB c l H1 Q := fun p t H' hp e' h1 h2 => k p t H' (fresh_back e hp) (e.trans e') h1 h2
theorem suite_12 (T : Txt K mg) (F : KitF K x) (h3 : σ[3]? = some (some (.ref a))) (hd : H d = some (.xd fs)) (hx : decide (x = "NotATree") = !decide (x = "UnknownPatch"))
    (k : ∀ H1, Ex H H1 → tSeq (tIfS (tB (tCB (rIsE1 K a (.ref (He.ga K x)) (some d)) (tCons (tVar 3) (tCons (tC (V.ref (He.ga K "NotATree"))) tNil))))
      (tRet (tLst (tCons (tC (V.int 1)) (tCons (tTup (tCons (tXf a (.ref (He.ga K x)) (some d) (He.ga K "NotATree") "first" (tVar 3)) (tCons (tXf a (.ref (He.ga K x)) (some d) (He.ga K "NotATree") "second" (tVar 3)) tNil))) tNil)))) tNext)
      (tRet (tLst (tCons (tC (V.int 2)) (tCons (tTup (tCons (tXf a (.ref (He.ga K x)) (some d) (He.ga K "UnknownPatch") "number" (tVar 3)) tNil)) tNil)))) D σ H1) : tSuite K a (.ref (He.ga K x)) (some d) D σ H := by
  have hm : ∀ y ∈ (["BadCell", "EmptyPatch", "DuplicateCell", "BadSize", "Conflict"] : List Str), y ∈ exNames := by decide +kernel
  have hm2 : ∀ y ∈ (["NotAVersion", "NotInside", "TooMany"] : List Str), y ∈ exNames := by decide +kernel
  refine q_when (b := false) (et_is (et_or (et_not (et_B (ev_isE1 (b := true) F h3 hd (fun u h => h) F.val))) fun _ => et_B (ev_isET F ["BadCell", "EmptyPatch", "DuplicateCell", "BadSize", "Conflict"] hm (by decide) h3 hd (ea_cons ev_c (ea_cons ev_c (ea_cons ev_c (ea_cons ev_c (ea_cons ev_c ea_nil))))))) rfl) (fun h => by cases h) fun _ H1 e1 => ?_
  have hd1 := e1 _ _ hd
  refine q_when (b := false) (et_is (et_or (et_B (ev_isET F ["NotAVersion", "NotInside", "TooMany"] hm2 (by decide) h3 hd1 (ea_cons ev_c (ea_cons ev_c (ea_cons ev_c ea_nil))))) fun _ => et_test (ev_op (ev_isE1 F h3 hd1 (fun u h => h) F.nt) (ev_isE1 F h3 hd1 (fun u h => h) F.up) (rv_eq rfl))) ?_) (fun h => by cases h) fun _ H2 e2 => k H2 (e1.trans e2)
  rw [hx]
  cases decide (x = "UnknownPatch") <;> rfl
theorem suite_N (T : Txt K mg) {q1 q2 : Int} (h3 : σ[3]? = some (some (.ref a))) (hd : H d = some (.xd [("second", .int q2), ("first", .int q1)])) (k : RetB 1 [q1, q2] H D.rt) : tSuite K a (.ref (He.ga K "NotATree")) (some d) D σ H := by
  refine suite_12 T T.kN h3 hd (by decide +kernel) fun H1 e1 => ?_
  have hd1 := e1 _ _ hd
  refine q_when (b := true) (et_B (ev_isE1 T.kN h3 hd1 (fun u h => h) T.kN.nt)) (fun _ H2 e2 => ?_) (fun h => by cases h)
  have hd2 := e2 _ _ hd1
  exact el_ct (D := { D with nx := _ }) (l := [q1, q2]) (eu_tup (ea_cons (ev_xf h3 hd2 rfl) (ea_cons (ev_xf h3 hd2 rfl) ea_nil)) (by show 2 ≤ 100000; decide)) (k.go (e1.trans e2))
theorem suite_U (T : Txt K mg) {n : Int} (h3 : σ[3]? = some (some (.ref a))) (hd : H d = some (.xd [("number", .int n)])) (k : RetB 2 [n] H D.rt) : tSuite K a (.ref (He.ga K "UnknownPatch")) (some d) D σ H := by
  refine suite_12 T T.kU h3 hd (by decide +kernel) fun H1 e1 => ?_
  have hd1 := e1 _ _ hd
  refine q_when (b := false) (et_B (ev_isE1 T.kU h3 hd1 (fun u h => h) T.kU.nt)) (fun h => by cases h) fun _ H2 e2 => ?_
  have hd2 := e2 _ _ hd1
  exact el_ct (l := [n]) (eu_tup (ea_cons (ev_xf h3 hd2 rfl) ea_nil) (by show 1 ≤ 100000; decide)) (k.go (e1.trans e2))
end
theorem told_go {σ : L2.St} {H : Hp} {te : TE} {D : Ends} (h : te σ H (fun x H1 => (2 ≤ sizeLine ∧ ∀ p, H1 p = none → D.rt (.ref p) (upd H1 p (.lst [.int 0, x]))))) : tRet (tLst (tCons (tC (.int 0)) (tCons te tNil))) D σ H := h
theorem sc_l_told : FnScope ["_law_book_here", "_law_way", "_law_number", "e"] ["_law_book_here", "_law_way", "_law_number"] (defScope s_l_told) := ⟨rfl, rfl, rfl, by decide +kernel, rfl, by decide +kernel, by decide +kernel⟩
def spTold (K : PySem.W.Frag) : Sp := fun vs H Q _ => ∃ (Y : BLay) (A : Ab) (way : Nat) (n : Int), vs = [.ref Y.p, .int (way : Int), .int n] ∧ BkE K H Y A A.n ∧ Good A ∧
  ((way ≠ 0 ∧ ¬ (1 ≤ n ∧ n ≤ A.n) ∧ RetB 2 [n] H Q) ∨
   ((way = 0 ∨ (1 ≤ n ∧ n ≤ A.n)) ∧ ∃ o, LeastP A A.n o ∧ (∀ q, o = some q → RetB 1 [(q.1 : Int), (q.2 : Int)] H Q) ∧
     (o = none → (way = 0 → ∀ p z ps H', H p = none → H z = none → p ≠ z → Ex H H' → H' p = some (.lst [.int 0, .ref z]) → H' z = some (.lst (ps.map V.ref)) → Tupz H' ps (due A A.n) → Q (.ref p) H') ∧
       (way ≠ 0 → ∀ p H', H p = none → Ex H H' → H' p = some (.lst [.int 0, .int ((lastOr (asc A.n (A.R n.toNat)) : Nat) : Int)]) → Q (.ref p) H'))))
theorem ok_l_told (T : Txt K mg) : OkC PP w K mg base CX0 6 ("_law_told", none) ["_law_book_here", "_law_way", "_law_number"] (spTold K) :=
  ok0 T.F_l_told sc_l_told (fun _ _ _ _ _ _ us hl => match us, hl with | [_, _, _], _ => rfl) (by rintro vs H Q E ⟨Y, A, way, n, rfl, _⟩; rfl) fun f cdv A0 outer s0 H vs Q E hr h => by
    obtain ⟨Y, A, way, n, rfl, hB, hG, k⟩ := h
    refine ⟨_, (pss_one (ps_try_as (i := 3) rfl rfl sc_l_told.nd rfl rfl ⟨rfl, by decide, .inl T.g_LivecopyError⟩ takes0 (fun W pn xe tk _ => (pss_one (ps_ret (pe_lst (pa_cons pe_int (pa_cons (pe_ifExp (pt_cmpR op_eq (pv 1) pe_int (nomark _)) (pe_cS (ok_tree_versions T) (hr.mono (by decide)) T.g_tree_versions (fun σ => passAt tk σ) (pa_cons (pv 0) pa_nil)) (pe_cS (ok_tree_parent T) (hr.mono (by decide)) T.g_tree_parent (fun σ => passAt tk σ) (pa_cons (pv 0) (pa_cons (pv 2) pa_nil)))) pa_nil)))))) (fun a oe cls d pn hz hf => (pss_cons (ps_if (PW.pt (pw_or (pt_not (pt_val (pe_callB (call_isE1 (K := K) hz hf) (by rfl) T.z_isinstance (by decide +kernel) (pa_cons (pv 3) (pa_cons (pe_bltn (v := .ty "ValueError") (by rfl) T.z_ValueError (by decide +kernel) rfl) pa_nil))))) (pw_or1 (pt_val (pe_callB (call_isET (K := K) hz hf) (by rfl) T.z_isinstance (by decide +kernel) (pa_cons (pv 3) (pa_cons (pe_tup (pa_cons (pe_glob (v := .ref (He.ga K "BadCell")) (by rfl) T.g_BadCell rfl) (pa_cons (pe_glob (v := .ref (He.ga K "EmptyPatch")) (by rfl) T.g_EmptyPatch rfl) (pa_cons (pe_glob (v := .ref (He.ga K "DuplicateCell")) (by rfl) T.g_DuplicateCell rfl) (pa_cons (pe_glob (v := .ref (He.ga K "BadSize")) (by rfl) T.g_BadSize rfl) (pa_cons (pe_glob (v := .ref (He.ga K "Conflict")) (by rfl) T.g_Conflict rfl) pa_nil)))))) pa_nil))))))) (pss_one (ps_ret (pe_lst (pa_cons pe_int (pa_cons (pe_tup pa_nil) pa_nil))))) pss_nil) (pss_cons (ps_if (PW.pt (pw_or (pt_val (pe_callB (call_isET (K := K) hz hf) (by rfl) T.z_isinstance (by decide +kernel) (pa_cons (pv 3) (pa_cons (pe_tup (pa_cons (pe_glob (v := .ref (He.ga K "NotAVersion")) (by rfl) T.g_NotAVersion rfl) (pa_cons (pe_glob (v := .ref (He.ga K "NotInside")) (by rfl) T.g_NotInside rfl) (pa_cons (pe_glob (v := .ref (He.ga K "TooMany")) (by rfl) T.g_TooMany rfl) pa_nil)))) pa_nil)))) (pw_or1 (pt_cmpR op_eq (pe_callB (call_isE1 (K := K) hz hf) (by rfl) T.z_isinstance (by decide +kernel) (pa_cons (pv 3) (pa_cons (pe_glob (v := .ref (He.ga K "NotATree")) (by rfl) T.g_NotATree rfl) pa_nil))) (pe_callB (call_isE1 (K := K) hz hf) (by rfl) T.z_isinstance (by decide +kernel) (pa_cons (pv 3) (pa_cons (pe_glob (v := .ref (He.ga K "UnknownPatch")) (by rfl) T.g_UnknownPatch rfl) pa_nil))) (nomark _))))) (pss_one (ps_ret (pe_lst (pa_cons pe_int (pa_cons (pe_tup pa_nil) pa_nil))))) pss_nil) (pss_cons (ps_if (pt_val (pe_callB (call_isE1 (K := K) hz hf) (by rfl) T.z_isinstance (by decide +kernel) (pa_cons (pv 3) (pa_cons (pe_glob (v := .ref (He.ga K "NotATree")) (by rfl) T.g_NotATree rfl) pa_nil)))) (pss_one (ps_ret (pe_lst (pa_cons pe_int (pa_cons (pe_tup (pa_cons (pe_xfK (K := K) (xfc_of T.kN.c) (T.exN.no "first" (by simp)) hz hf (pv 3)) (pa_cons (pe_xfK (K := K) (xfc_of T.kN.c) (T.exN.no "second" (by simp)) hz hf (pv 3)) pa_nil))) pa_nil))))) pss_nil) (pss_one (ps_ret (pe_lst (pa_cons pe_int (pa_cons (pe_tup (pa_cons (pe_xfK (K := K) (xfc_of T.kU.c) (T.exU.no "number" (by simp)) hz hf (pv 3)) pa_nil)) pa_nil))))))))))), ?_⟩
    refine told_go ?_
    refine ⟨_, rfl, rfl, _, rfl, it2 (fun hw => ?_) (fun hw => ?_)⟩
    · have hw0 : way = 0 := by
        have h := of_decide_eq_true hw
        injection h with h
        omega
      obtain ⟨hne, _⟩ | ⟨_, o, hL, hs, hn⟩ := k
      · exact absurd hw0 hne
      refine ⟨_, rfl, Y, A, rfl, hB, hG, fun o' hL' => ?_⟩
      have := LeastP.uniq hL' hL
      subst this
      refine ⟨fun ho => ?_, fun q ho d H1 nd e1 hd => ⟨true, T.kN.live, fun _ a ha => suite_N T rfl hd ((hs q ho).go e1), fun q => nomatch q⟩⟩
      intro z ps H1 nz e1 hz hT
      refine ⟨sz_of (by show 2 ≤ 100000; decide), fun p hp => ?_⟩
      have hpz : p ≠ z := (ne_of_none hz hp).symm
      exact (hn ho).1 hw0 p z ps _ (fresh_back e1 hp) nz hpz (e1.trans (Ex.new hp)) upd_same (Ex.new hp _ _ hz) (hT.ex (Ex.new hp))
    · have hw0 : way ≠ 0 := fun e => of_decide_eq_false hw (by rw [e]; rfl)
      refine ⟨_, rfl, _, rfl, Y, A, n, rfl, hB, hG, fun hv => ?_, fun hv => ?_⟩
      · obtain ⟨_, _, hu⟩ | ⟨hv2, _⟩ := k
        · exact fun d H1 nd e1 hd => ⟨true, T.kU.live, fun _ a ha => suite_U T rfl hd (hu.go e1), fun q => nomatch q⟩
        · rcases hv2 with h | h
          · exact absurd h hw0
          · exact absurd h hv
      · obtain ⟨_, hv2, _⟩ | ⟨_, o, hL, hs, hn⟩ := k
        · exact absurd hv hv2
        intro o' hL'
        have := LeastP.uniq hL' hL
        subst this
        refine ⟨fun ho => ?_, fun q ho d H1 nd e1 hd => ⟨true, T.kN.live, fun _ a ha => suite_N T rfl hd ((hs q ho).go e1), fun q => nomatch q⟩⟩
        intro H1 e1
        refine ⟨sz_of (by show 2 ≤ 100000; decide), fun p hp => ?_⟩
        exact (hn ho).2 hw0 p _ (fresh_back e1 hp) (e1.trans (Ex.new hp)) upd_same
end
end K27
set_option Elab.async false
set_option linter.all false
set_option maxRecDepth 100000
set_option maxHeartbeats 1000000
/-! K27Sort: sorted() of tuples of numbers of any length, the first of them empty. -/
namespace K27
open PySem PySem.Spec PyProof.Rows L2 Evl

/-! ### the order -/
theorem lex_irr : ∀ a : List Int, HT.lexLt a a = false
  | [] => rfl
  | x :: a => by rw [HT.lexLt_cons, if_pos rfl]; exact lex_irr a
theorem lex_tri : ∀ a b : List Int, HT.lexLt a b = false → HT.lexLt b a = false → a = b
  | [], [], _, _ => rfl
  | [], y :: b, h, _ => by cases h
  | x :: a, [], _, h => by cases h
  | x :: a, y :: b, h, h' => by
    rw [HT.lexLt_cons] at h h'
    by_cases e : x = y
    · subst e
      rw [if_pos rfl] at h h'
      rw [lex_tri a b h h']
    · rw [if_neg e] at h
      rw [if_neg (Ne.symm e)] at h'
      have := of_decide_eq_false h
      have := of_decide_eq_false h'
      omega
theorem lex_asym : ∀ a b : List Int, HT.lexLt a b = true → HT.lexLt b a = false
  | [], [], h => by cases h
  | [], y :: b, _ => rfl
  | x :: a, [], h => by cases h
  | x :: a, y :: b, h => by
    rw [HT.lexLt_cons] at h ⊢
    by_cases e : x = y
    · subst e
      rw [if_pos rfl] at h ⊢
      exact lex_asym a b h
    · rw [if_neg e] at h
      rw [if_neg (Ne.symm e)]
      have := of_decide_eq_true h
      exact decide_eq_false (by omega)
theorem lex_ntr : ∀ a b c : List Int, HT.lexLt b a = false → HT.lexLt c b = false → HT.lexLt c a = false
  | [], _, [], _, _ => rfl
  | [], [], z :: c, _, _ => rfl
  | [], y :: b, z :: c, _, _ => rfl
  | x :: a, [], c, h, _ => by cases h
  | x :: a, y :: b, [], _, h => by cases h
  | x :: a, y :: b, z :: c, h, h' => by
    rw [HT.lexLt_cons] at h h' ⊢
    by_cases e1 : y = x
    · subst e1
      rw [if_pos rfl] at h
      by_cases e2 : z = y
      · subst e2
        rw [if_pos rfl] at h' ⊢
        exact lex_ntr a b c h h'
      · rw [if_neg e2] at h' ⊢
        exact h'
    · rw [if_neg e1] at h
      have q1 := of_decide_eq_false h
      by_cases e2 : z = y
      · subst e2
        rw [if_neg e1]
        exact h
      · rw [if_neg e2] at h'
        have q2 := of_decide_eq_false h'
        rw [if_neg (by omega)]
        exact decide_eq_false (by omega)
def castL (l : List Nat) : List Int := l.map fun (n : Nat) => (n : Int)
theorem castL_inj {l m : List Nat} (h : castL l = castL m) : l = m := by
  have : nv l = nv m := by rw [nv_int, nv_int]; exact congrArg _ h
  exact nv_inj this
def SrtZ (vs : List (List Nat)) : Prop := vs.Pairwise fun a b => HT.lexLt (castL b) (castL a) = false
theorem srtZ_uniq : ∀ {l m : List (List Nat)}, SrtZ l → SrtZ m → l.Perm m → l = m
  | [], m, _, _, p => (List.nil_perm.mp p).symm
  | a :: l, [], _, _, p => by cases (List.perm_nil.mp p)
  | a :: l, b :: m, h1, h2, p => by
    have e : a = b := by
      have ha : a ∈ b :: m := p.mem_iff.mp (.head _)
      have hb : b ∈ a :: l := p.mem_iff.mpr (.head _)
      rcases List.mem_cons.mp ha with e | ha
      · exact e
      · rcases List.mem_cons.mp hb with e | hb
        · exact e.symm
        · have q1 := (List.pairwise_cons.mp h2).1 a ha
          have q2 := (List.pairwise_cons.mp h1).1 b hb
          exact castL_inj (lex_tri _ _ q1 q2)
    subst e
    rw [srtZ_uniq (List.pairwise_cons.mp h1).2 (List.pairwise_cons.mp h2).2 (List.perm_cons a |>.mp p)]
theorem swo_k (k : Value → List Nat) : SrtO.Swo fun v u => HT.lexLt (castL (k v)) (castL (k u)) :=
  ⟨fun x y h => lex_asym _ _ h, fun x y z h1 h2 => lex_ntr _ _ _ h1 h2⟩

/-! ### tuples of ints compared, their kind -/
section
variable {prog : Program} {w : World} {A : Around} {E : Value → Shared → Prop} {s : Shared}
/-- v is a tuple of the numbers l -/
def TupAt (h : Heap) (v : Value) (l : List Nat) : Prop := ∃ (a : Addr) (its : List Value), v = .ref a ∧ IsTup h a its.toArray ∧ IntsAre its (castL l)
theorem oneLt_tup {x y : Value} {l m : List Nat} {Q : Bool → Shared → Prop} (hx : TupAt s.heap x l) (hy : TupAt s.heap y m) (hu : A.units < cLine) (h : Q (HT.lexLt (castL l) (castL m)) s) : wpAny (model prog w) A (oneLt' true x y) Q E s := by
  obtain ⟨a, its, rfl, ⟨⟨cls, dd, data, sl⟩, ho, hc, n, hd⟩, hi⟩ := hx
  obtain ⟨b, its2, rfl, ⟨⟨cls2, dd2, data2, sl2⟩, ho2, hc2, n2, hd2⟩, hj⟩ := hy
  simp only at hc hd hc2 hd2
  subst hc hd hc2 hd2
  rw [oneLt'_eq]
  simp only [if_true]
  refine wpAny_bind (wpAny_cRoomFor hu ?_)
  refine wpAny_bind (wpAny_callSpecialIfBound?_slot ⟨_, ho, rfl⟩ PySem.F.slot_tuple_lt (call_meets PySem.F.slot_tuple_lt ⟨_, ho, rfl⟩ PySem.F.entry_tuple_lt (PySem.F.args_tuple_lt_2 _ _) (HT.tuple_lt_ints a b its.toArray its2.toArray n n2 dd dd2 sl sl2 (castL l) (castL m) hi hj) ⟨ho, ho2, ?_⟩))
  exact wpAny_truthy_bool h
theorem firsts_tup {M : Model} : ∀ (vs : List Value) {Q : List (Option Value) → Shared → Prop}, (∀ v ∈ vs, ∃ l, TupAt s.heap v l) → (∀ fs, Q fs s) → wpAny M A (vs.mapM firstOfTuple') Q E s
  | [], Q, _, h => by rw [List.mapM_nil]; exact wpAny_pure (h _)
  | v :: vs, Q, hv, h => by
    obtain ⟨l, a, its, rfl, ⟨o, ho, hc, n, hd⟩, hi⟩ := hv v (.head _)
    rw [List.mapM_cons]
    refine wpAny_bind ?_
    rw [PySem.W.kas_first_eq]
    refine wpAny_bind (PySem.W.Looks.here (show PySem.W.Looks M s.heap (typeOf (.ref a)) o.cls from (PySem.W.Looks.ld ho).andThen .now) ?_)
    rw [hc, if_neg (by first | decide | simp)]
    refine wpAny_bind (listItems_at ho hd (wpAny_pure ?_))
    exact wpAny_bind (firsts_tup vs (Q := fun bs s' => wpAny M A (pure (_ :: bs)) Q E s') (fun v hv' => hv v (.tail _ hv')) fun fs => wpAny_pure (h _))
theorem kind_tup {M : Model} {v1 : Value} {vs : List Value} {Q : SortKind → Shared → Prop} (h1 : TupAt s.heap v1 []) (hv : ∀ v ∈ vs, ∃ l, TupAt s.heap v l) (h : Q oneType' s) : wpAny M A (keyKind' (v1 :: vs).toArray) Q E s := by
  have hT : ∀ v ∈ v1 :: vs, PySem.W.Looks M s.heap (typeOf v) (.type "tuple") := fun v hm => by
    have : ∃ l, TupAt s.heap v l := by
      rcases List.mem_cons.mp hm with rfl | hm
      · exact ⟨_, h1⟩
      · exact hv v hm
    obtain ⟨l, a, its, rfl, ⟨o, ho, hc, n, hd⟩, hi⟩ := this
    have := (show PySem.W.Looks M s.heap (typeOf (.ref a)) o.cls from (PySem.W.Looks.ld ho).andThen .now)
    rw [hc] at this
    exact this
  obtain ⟨a, its, rfl, ⟨o, ho, hc, n, hd⟩, hi⟩ := h1
  have e0 : its = [] := by
    cases hi
    rfl
  subst e0
  rw [keyKind'_eq, List.mapM_toArray, map_eq_pure_bind, List.mapM_cons]
  refine wpAny_bind (wpAny_bind (wpAny_bind ?_))
  rw [PySem.W.kas_first_eq]
  refine wpAny_bind (PySem.W.Looks.here (show PySem.W.Looks M s.heap (typeOf (.ref a)) o.cls from (PySem.W.Looks.ld ho).andThen .now) ?_)
  rw [hc, if_neg (by first | decide | simp)]
  refine wpAny_bind (listItems_at ho hd (wpAny_pure ?_))
  refine wpAny_bind (firsts_tup vs hv fun fs => wpAny_pure (wpAny_pure ?_))
  have hall : (((([] : List Value).toArray)[0]? :: fs).toArray.all fun x => x.isSome) = false := by simp
  have hb : ((((([] : List Value).toArray)[0]? :: fs).toArray)[0]?.bind id).isSome = false := by simp
  rw [if_neg (by rw [hall]; exact Bool.false_ne_true), if_neg (by rw [hb]; exact Bool.false_ne_true)]
  rw [oneTypeOnly'_eq, List.mapM_toArray, map_eq_pure_bind]
  refine wpAny_bind (wpAny_bind (wpAny_bind (PySem.W.kas_mapM (r := Value.type "tuple") _ (fun v hv Q' hq => (hT v hv).here hq) (wpAny_pure ?_))))
  have hall2 : ((List.map (fun _ => Value.type "tuple") (Value.ref a :: vs)).toArray.all fun x => x == Value.type "tuple") = true := by
    simp only [List.all_toArray, List.all_map, List.all_eq_true]
    intro _ _
    rfl
  have h0 : (List.map (fun _ => Value.type "tuple") (Value.ref a :: vs)).toArray[0]? = some (Value.type "tuple") := by simp
  rw [h0]
  simp only [hall2, if_true]
  exact wpAny_pure (wpAny_pure h)
end
theorem vals_refs : ∀ {ps : List Addr} {us : List Value}, Vals (ps.map V.ref) us → us = ps.map Value.ref
  | [], _, .nil => rfl
  | p :: ps, _, .cons r t => by
    cases r
    rw [vals_refs t]
    rfl
theorem refs_vals : ∀ ps : List Addr, Vals (ps.map V.ref) (ps.map Value.ref)
  | [] => .nil
  | _ :: ps => .cons rfl (refs_vals ps)
theorem TupAt.keeps {h h' : Heap} {v : Value} {l : List Nat} (x : TupAt h v l) (k : ∀ b o, h.get? b = some o → h'.get? b = some o) : TupAt h' v l := by
  obtain ⟨a, its, e, i, n⟩ := x
  exact ⟨a, its, e, i.keeps k, n⟩
open Classical in
noncomputable def kN (H : Hp) (v : Value) : List Nat := if h : ∃ l : List Nat, ∃ b : Addr, v = .ref b ∧ H b = some (.tup (nv l)) then choose h else []
theorem kN_of {H : Hp} {b : Addr} {l : List Nat} (h : H b = some (.tup (nv l))) : kN H (.ref b) = l := by
  have hx : ∃ l : List Nat, ∃ c : Addr, Value.ref b = .ref c ∧ H c = some (.tup (nv l)) := ⟨l, b, rfl, h⟩
  unfold kN
  rw [dif_pos hx]
  obtain ⟨c, e, h2⟩ := Classical.choose_spec hx
  cases e
  rw [h] at h2
  have : nv l = nv (Classical.choose hx) := by
    injection h2 with h2
    injection h2
  exact (nv_inj this).symm
theorem Tupz.kmap {H : Hp} : ∀ {ps : List Addr} {vs : List (List Nat)}, Tupz H ps vs → (ps.map Value.ref).map (kN H) = vs
  | [], [], _ => rfl
  | p :: ps, v :: vs, h => by
    rw [List.map_cons, List.map_cons, kN_of h.1, Tupz.kmap h.2]
  | [], _ :: _, h => h.elim
  | _ :: _, [], h => h.elim
theorem tupz_mk {H : Hp} : ∀ {ps : List Addr}, (∀ p ∈ ps, ∃ l : List Nat, H p = some (.tup (nv l))) → Tupz H ps ((ps.map Value.ref).map (kN H))
  | [], _ => trivial
  | p :: ps, h => by
    obtain ⟨l, hl⟩ := h p (.head _)
    refine ⟨?_, tupz_mk fun q hq => h q (.tail _ hq)⟩
    rw [kN_of hl]
    exact hl
theorem tupz_mem {H : Hp} : ∀ {ps : List Addr} {vs : List (List Nat)}, Tupz H ps vs → ∀ p ∈ ps, ∃ l : List Nat, H p = some (.tup (nv l))
  | p :: ps, v :: vs, h, q, hq => by
    rcases List.mem_cons.mp hq with rfl | hq
    · exact ⟨v, h.1⟩
    · exact tupz_mem h.2 q hq
  | [], [], _, q, hq => by cases hq
  | [], _ :: _, h, _, _ => h.elim
  | _ :: _, [], h, _, _ => h.elim
def rSortZ : List V → Hp → VK → Prop := fun xs H Q => ∃ (a : Addr) (ps : List Addr) (rest : List (List Nat)), xs = [.ref a] ∧ H a = some (.lst (ps.map V.ref)) ∧ Tupz H ps ([] :: rest) ∧
  ∀ p ps' vs', H p = none → Tupz H ps' vs' → vs'.Perm ([] :: rest) → SrtZ vs' → Q (.ref p) (upd H p (.lst (ps'.map V.ref)))
theorem call_sortZ {X : Cx} (hu : X.A.units + 64 < cLine) : CallR X (.builtin "sorted") rSortZ := by
  intro pins s σ H vs us Q I r h
  obtain ⟨a, ps, rest, rfl, ha, hT, q⟩ := h
  obtain ⟨its, rv, hl, hz⟩ := I.list (SqL.of (K := X.K) ha)
  rw [Vals.ref1 r]
  obtain rfl := vals_refs rv
  have hat : ∀ v ∈ ps.map Value.ref, TupAt s.heap v (kN H v) := fun v hv => by
    obtain ⟨b, hb, rfl⟩ := List.mem_map.mp hv
    obtain ⟨l, hbl⟩ := tupz_mem hT b hb
    obtain ⟨its, r1, p1, _⟩ := I.tuple (SqT.of (K := X.K) hbl)
    rw [kN_of hbl]
    refine ⟨b, its, rfl, p1, intsAre_of ?_⟩
    rw [nv_int] at r1
    exact r1
  refine SrtO.sorted_ord (swo_k (kN H)) hl.isList (by rw [List.length_map]; rw [List.length_map] at hz; exact hz) (fun h2 h₁ a' _ kk => ?_) fun out h1 h2 => ?_
  · intro h' keep
    have hat' : ∀ v ∈ ps.map Value.ref, TupAt h' v (kN H v) := fun v hv => (hat v hv).keeps fun b o hb => keep b o (kk b o hb).1 (kk b o hb).2
    refine ⟨oneType', fun Q E hq => ?_, fun p1 p2 hp1 hp2 => ?_⟩
    · match ps, hT with
      | p :: ps, hT =>
        refine kind_tup (s := { s with heap := h' }) ?_ (fun v hv => ⟨_, hat' v (.tail _ hv)⟩) hq
        have := hat' (.ref p) (.head _)
        rw [kN_of hT.1] at this
        exact this
    · exact oneLt_tup (s := { s with heap := h' }) (hat' _ hp1) (hat' _ hp2) (by simp only [Around.in1_units]; omega) ⟨rfl, rfl⟩
  · have hmem : ∀ v ∈ out, v ∈ ps.map Value.ref := fun v hv => h2.perm.mem_iff.mp hv
    obtain ⟨ps', rfl⟩ : ∃ ps' : List Addr, out = ps'.map Value.ref := by
      refine ⟨out.map fun v => match v with | .ref b => b | _ => 0, ?_⟩
      rw [List.map_map]
      refine (List.map_id out).symm.trans (List.map_congr_left fun v hv => ?_)
      obtain ⟨b, _, rfl⟩ := List.mem_map.mp (hmem v hv)
      rfl
    obtain ⟨ep, he'⟩ := PyProof.Rows.sortedAll_at s.heap (ps.map Value.ref) (ps'.map Value.ref).toArray
    have hlen : (ps'.map V.ref).length ≤ sizeLine := by
      have e := h2.perm.length_eq
      rw [List.length_map, List.length_map] at e
      rw [List.length_map] at hz ⊢
      rw [e]
      exact hz
    refine ⟨.ref _, upd H (s.heap.objs.size + 1) (.lst (ps'.map V.ref)), I.laid (t' := s.toks) (fun _ _ => PyProof.Rows.sortedAll_old) (Nat.le_succ _) ⟨hlen, ps'.map Value.ref, ep, refs_vals ps', he'⟩, rfl, q _ ps' ((ps'.map Value.ref).map (kN H)) (I.hok.fresh (Nat.le_succ _)) (tupz_mk fun p hp => ?_) ?_ ?_⟩
    · obtain ⟨b, hb, e⟩ := List.mem_map.mp (hmem (.ref p) (List.mem_map.mpr ⟨p, hp, rfl⟩))
      have e2 : b = p := Value.ref.inj e
      rw [← e2]
      exact tupz_mem hT b hb
    · have := h2.perm.map (kN H)
      rw [hT.kmap] at this
      exact this
    · exact List.pairwise_map.mpr (h1.imp fun {x y} h => h)
end K27
set_option Elab.async false
set_option linter.all false
set_option maxRecDepth 100000
set_option maxHeartbeats 1000000
/-! K27B4: the book written. -/
namespace K27
open PySem PySem.Spec PyProof.Rows L2 Evl
local macro_rules | `(tactic| walk_at "rd") => `(tactic| repeat (first | refine ⟨_, _, rfl, rfl, ?_⟩ | refine ⟨_, rfl, ?_⟩ | refine ⟨_, _, _, _, rfl, rfl, SqL.of (by assumption), rfl, ?_⟩ | refine Or.inl ⟨_, rfl, ?_⟩ | refine ⟨Or.inl (by decide), ?_⟩ | refine ⟨(by decide : _ ≠ _), ?_⟩))
theorem pg_tupK {X : Cx} {K : PySem.W.Frag} {es : List Expr} {k : Nat} {t : TGs} {n : Nat} {pos : Pos} (hc : X.calm = true) (h : PGs X es t)
    (hn : (assignEach es X.env).length = n := by rfl) (hst : (assignEach es X.env).findIdx? (·.1) = none := by rfl) (hK : X.K = K := by rfl) : PG X (.Tuple es k pos) (gTup K n t) := by
  subst hK
  exact pg_tup hc h hn hst
/-- for k in d, d a dict with int keys, locked -/
theorem q_forK {σ : L2.St} {H : Hp} {j jx : Nat} {d : Addr} {kvs : List (Key × V)} {ks : List Int} {tu tz : TS} {D : Ends} (hk : kvs.map (·.1) = ks.map Sum.inl) (hd : H d = some (.dK kvs)) (hj : σ[j]? = some (some (.ref d))) (Pv : Obj → Nat → L2.St → Hp → Prop)
    (h0 : ∀ od, Pv od 0 σ (upd H d (.frz od (.dK kvs)))) (hl : ∀ od i σ' H', Pv od i σ' H' → H' d = some (.frz od (.dK kvs)))
    (hs : ∀ od i c σ' H' rt bk, ks[i]? = some c → Pv od i σ' H' → tu { nx := Pv od (i + 1), rt := rt, bk := bk, ct := Pv od (i + 1) } (σ'.set jx (some (.int c))) H')
    (he : ∀ od σ' H', Pv od ks.length σ' H' → tz D σ' (upd H' d (.dK kvs))) : tSeq (tLock (tFor (iKeys (tVar j)) (gName jx) tu)) tz D σ H := by
  have len : kvs.length = ks.length := by
    have := congrArg List.length hk
    rw [List.length_map, List.length_map] at this
    exact this
  refine ⟨d, .dK kvs, hd, trivial, fun od => ⟨_, hj, d, od, rfl, .inl ⟨kvs, upd_same, fun i m σ H => m = kvs.length - i ∧ i ≤ kvs.length ∧ Pv od i σ H, ⟨_, rfl, Nat.zero_le _, h0 od⟩, ?_⟩⟩⟩
  rintro i m σ' H' ⟨rfl, hi, p⟩
  have q := hl od i σ' H' p
  by_cases hlt : i < kvs.length
  · refine .inr ⟨⟨q, hlt⟩, Pv od (i + 1), fun σ2 H2 p2 => ⟨kvs.length - (i + 1), by omega, rfl, hlt, p2⟩, ?_⟩
    rintro x H2 ⟨rfl, k, v, hkv, rfl⟩
    have e1 : (kvs.map (·.1))[i]? = some k := by rw [List.getElem?_map, hkv]; rfl
    rw [hk, List.getElem?_map] at e1
    cases e2 : ks[i]? with
    | none => rw [e2] at e1; cases e1
    | some c =>
      rw [e2] at e1
      have e3 : Sum.inl c = k := Option.some.inj e1
      subst e3
      exact hs od i c σ' _ _ _ e2 p
  · have e : i = ks.length := by omega
    subst e
    exact .inl ⟨⟨q, by omega⟩, q, he od σ' H' p⟩
theorem dl_list {K : PySem.W.Frag} {a : Addr} {xs : List V} {g : TG} {tt : TT} {tk tv : TE} {vs : List Nat} {σ : L2.St} {H1 : Hp} {D : Addr} {Qd : Hp → Prop} (Pv : Nat → Hp → Prop) (h0 : Pv 0 (upd H1 D (.dK []))) (hl : ∀ i H, i ≤ xs.length → Pv i H → SqL K H a xs)
    (hs : ∀ i x H, xs[i]? = some x → Pv i H → g x (wipe σ vs) H fun σ2 H2 => wipe σ2 vs = wipe σ vs ∧ tt σ2 H2 fun b H3 =>
      if b = true then tk σ2 H3 fun y H4 => tv σ2 H4 fun z H5 => ∃ kvs k, y = kV k ∧ H5 D = some (.dK kvs) ∧ kvs.length < sizeLine ∧ Pv (i + 1) (upd H5 D (.dK (putK kvs k z))) else Pv (i + 1) H3) (hd : ∀ H, Pv xs.length H → Qd H) :
    ∃ W : Nat → Nat → Hp → Prop, (∃ m, W 0 m (upd H1 D (.dK []))) ∧ ∀ i m H, W i m H →
      ((Itl K a).stop i H ∧ Qd H) ∨ ((Itl K a).go i H ∧ ∃ Nx : Hp → Prop, (∀ H', Nx H' → ∃ m', m' < m ∧ W (i + 1) m' H') ∧ ∀ x H', (Itl K a).yld i H x H' → g x (wipe σ vs) H' fun σ2 H2 => wipe σ2 vs = wipe σ vs ∧ tt σ2 H2 fun b H3 =>
        if b = true then tk σ2 H3 fun y H4 => tv σ2 H4 fun z H5 => ∃ kvs k, y = kV k ∧ H5 D = some (.dK kvs) ∧ kvs.length < sizeLine ∧ Nx (upd H5 D (.dK (putK kvs k z))) else Nx H3) := by
  refine ⟨fun i m H => m = xs.length - i ∧ i ≤ xs.length ∧ Pv i H, ⟨_, rfl, Nat.zero_le _, h0⟩, ?_⟩
  rintro i m H ⟨rfl, hi, p⟩
  have q := hl i H hi p
  by_cases hlt : i < xs.length
  · refine .inr ⟨⟨xs, xs[i], q, by simp [hlt]⟩, Pv (i + 1), fun H' p' => ⟨xs.length - (i + 1), by omega, rfl, hlt, p'⟩, fun x H' y => ?_⟩
    obtain ⟨e, y⟩ := y
    subst e
    exact hs i x _ (y xs q) p
  · have e : i = xs.length := by omega
    subst e
    exact .inl ⟨⟨xs, q, Nat.le_refl _⟩, hd H p⟩
section
variable {w : World} {K : PySem.W.Frag} {mg : Str → Option Value} {base : Heap}
theorem sc_checked_writes : FnScope ["writes", "cells", "values", "cell", "value"] ["writes", "cells"] (defScope s_checked_writes) := ⟨rfl, rfl, rfl, by decide +kernel, rfl, by decide +kernel, by decide +kernel⟩
def spChecked (K : PySem.W.Frag) : Sp := fun vs H Q _ => ∃ (a : Addr) (ts : List Addr) (wr : List (Int × Int)) (c : Nat), vs = [.ref a, .int (c : Int)] ∧ SqL K H a (ts.map V.ref) ∧ Tups H ts wr ∧ Wok c wr ∧ ∀ (d : Addr) (kvs : List (Key × V)) (ks : List Int) (H' : Hp), H d = none → Ex H H' → H' d = some (.dK kvs) → kvs.map (·.1) = ks.map Sum.inl → ks.Perm (wr.map (·.1)) → Q (.ref d) H'
theorem ok_checked_writes (T : Txt K mg) : OkC PP w K mg base CX0 1 ("checked_writes", none) ["writes", "cells"] (spChecked K) :=
  ok0 T.F_checked_writes sc_checked_writes (fun _ _ _ _ _ _ us hl => match us, hl with | [_, _], _ => rfl) (by rintro vs H Q E ⟨a, ts, wr, c, rfl, _⟩; rfl) fun f cdv A0 outer s0 H vs Q E hr h => by
    obtain ⟨a, ts, wr, c, rfl, ha, hT, hW, k⟩ := h
    refine ⟨_, (pss_cons (ps_if (pt_cmpR op_eq (pe_callB (call_lenK (K := K)) (by rfl) T.z_len (by decide +kernel) (pa_cons (pv 0) pa_nil)) pe_int (nomark _)) (pss_one ps_never) pss_nil) (pss_cons (ps_set (i := 2) sc_checked_writes.nd rfl (Or.inr rfl) pe_dnewK) (pss_cons (ps_for PassesOwn.never rfl (pi_listK (K := K) (pv 0)) (pg_tupK (K := K) (by rfl) (pgs_cons (pg_name (i := 3) sc_checked_writes.nd rfl (Or.inl rfl)) (pgs_cons (pg_name (i := 4) sc_checked_writes.nd rfl (Or.inl rfl)) pgs_nil))) (pss_cons (ps_if (pt_not (pt_chain op_le op_lt pe_int (pv 3) (pv 1))) (pss_one ps_never) pss_nil) (pss_cons (ps_if (pt_cmp (pc_din (hu_of hr) (pv 3) (pv 2))) (pss_one ps_never) pss_nil) (pss_one (ps_dput (hu_of hr) (pv 2) (pv 3) (pv 4) rfl))))) (pss_one (ps_ret (pe_dc (own := [("cell", 3)]) (g := gName 3) (by rfl) sc_checked_writes.nd (pi_listK (K := K) (pe_callB (call_sortedDI rfl) (by rfl) T.z_sorted (by decide +kernel) (pa_cons (pv 2) pa_nil))) (blkOk_by (by rfl)) (fun _ _ _ _ _ => pg_name (i := 3) sc_checked_writes.nd rfl (by first | exact Or.inl rfl | exact Or.inr rfl)) (fun _ _ _ _ _ => pts_nil) (fun _ _ _ _ _ => (pv 3)) (fun _ _ _ _ _ => (pe_dget (hu_of hr) (pv 2) (pv 3) (fun _ _ => rfl))))))))), ?_⟩
    have hTl := hT.len
    have hl1 : 1 ≤ wr.length := by
      cases h : wr with
      | nil => exact absurd h hW.ne
      | cons p l => simp
    refine q_when (b := false) (et_is (et_test (ev_op (ev_len (ev_var rfl) ha) ev_c (rv_eq rfl))) (by rw [List.length_map, hTl]; exact decide_eq_false (fun e => by injection e with e; omega))) (fun h => by cases h) (fun _ H1 e1 => ?_)
    refine q_do ?_
    intro d hd
    have hd0 : H d = none := fresh_back e1 hd
    have keyv : ∀ (l : List (Int × Int)) (k : Int), (valV (l.map fun p => ((Sum.inl p.1 : Key), V.int p.2)) (Sum.inl k)).isSome = decide (k ∈ l.map (·.1)) := fun l k => by
      rw [← valV_any, List.any_map]
      induction l with
      | nil => simp
      | cons p l ih =>
        rw [List.any_cons, ih]
        by_cases h : p.1 = k
        · simp [h]
        · have h' : ¬ k = p.1 := fun e => h e.symm
          have h2 : ¬ ((Sum.inl p.1 : Key) = Sum.inl k) := fun e => h (Sum.inl.inj e)
          simp [h', h2]
    refine q_forL (xs := ts.map V.ref) (ev_var rfl) (ex_l (e1.trans (Ex.new hd)) ha) (fun i σ' H' => ∃ x y, σ' = [some (.ref a), some (.int (c : Int)), some (.ref d), x, y] ∧ Ex H H' ∧ H' d = some (.dK ((wr.take i).map fun p => ((Sum.inl p.1 : Key), V.int p.2)))) (fun H2 e2 => ⟨_, _, rfl, (e1.trans (Ex.new hd)).trans e2, e2 _ _ (by rw [upd_same]; rfl)⟩) (fun i σ' H' _ ⟨x, y, _, e, _⟩ => ex_l e ha) (fun i x σ' H' hx => ?_) (fun σ' H' => ?_)
    · rintro ⟨x0, y0, rfl, e, hdk⟩
      rw [List.getElem?_map] at hx
      cases e4 : ts[i]? with
      | none => rw [e4] at hx; cases hx
      | some tt =>
        rw [e4] at hx
        cases hx
        obtain ⟨p, hp, htt⟩ := hT.get e4
        have hr := hW.rng p (List.mem_of_getElem? hp)
        have hi : i < wr.length := (List.getElem?_eq_some_iff.mp hp).1
        refine ⟨tt, _, rfl, SqT.of (e _ _ htt), rfl, _, _, rfl, _, _, rfl, rfl, ?_⟩
        refine q_when (b := false) (et_is (et_not (et_chain ev_c (ev_var rfl) (ev_var rfl))) (by rw [decide_eq_true hr.1, decide_eq_true hr.2]; rfl)) (fun h => by cases h) (fun _ H2 e2 => ?_)
        have hdk2 := e2 _ _ hdk
        have hno : (valV ((wr.take i).map fun p => ((Sum.inl p.1 : Key), V.int p.2)) (Sum.inl p.1)).isSome = false := by
          rw [keyv]
          refine decide_eq_false fun hin => ?_
          have hnd := hW.nd
          have hsp : wr.map (·.1) = (wr.take i).map (·.1) ++ (wr.drop i).map (·.1) := by rw [← List.map_append, List.take_append_drop]
          rw [hsp, List.nodup_append] at hnd
          have hmem : p.1 ∈ (wr.drop i).map (·.1) := by
            refine List.mem_map.mpr ⟨p, ?_, rfl⟩
            rw [List.drop_eq_getElem_cons hi, (List.getElem?_eq_some_iff.mp hp).2]
            exact .head _
          exact hnd.2.2 _ hin _ hmem rfl
        refine q_when (b := false) (fun H3 e3 Q3 q3 => ⟨_, rfl, _, rfl, d, _, rfl, DGet.k (k := Sum.inl p.1) (e3 _ _ hdk2), false, congrArg V.bl hno, q3 H3 (Ex.refl _)⟩) (fun h => by cases h) (fun _ H3 e3 => ?_)
        refine ⟨_, rfl, _, rfl, _, rfl, d, _, rfl, DPut.k (k := Sum.inl p.1) (e3 _ _ hdk2) (small1000 (by rw [List.length_map, List.length_take]; have := hW.len; omega)), _, _, rfl, Ex.mut ((e.trans e2).trans e3) hd0, ?_⟩
        rw [upd_same]
        congr 2
        unfold putK
        rw [valV_any, hno, if_neg Bool.false_ne_true, List.take_succ, hp]
        simp
    · rintro ⟨x0, y0, rfl, e, hdk⟩
      rw [List.length_map, hTl, List.take_length] at hdk
      have hkk : (wr.map fun p => ((Sum.inl p.1 : Key), V.int p.2)).map (·.1) = (wr.map (·.1)).map Sum.inl := by rw [List.map_map, List.map_map]; rfl
      refine ⟨_, rfl, d, _, wr.map (·.1), rfl, .inl hdk, hkk, by rw [List.length_map]; have := hW.len; omega, fun ys sl hys _ hsl => ?_⟩
      have hslk : (upd H' sl (.lst (ys.map V.int))) sl = some (.lst (ys.map V.int)) := upd_same
      have esl := Ex.new (o := HO.lst (ys.map V.int)) hsl
      refine ⟨sl, rfl, ⟨_, SqL.of hslk⟩, fun D hD => ?_⟩
      have hD0 : H D = none := fresh_back (e.trans esl) hD
      have hnsl : sl ≠ D := ne_of_none hslk hD
      have hnd : d ≠ D := ne_of_none (esl _ _ hdk) hD
      refine dl_list (xs := ys.map V.int) (fun i H2 => ∃ kvs : List (Key × V), Ex H H2 ∧ H2 D = some (.dK kvs) ∧ kvs.map (·.1) = (ys.take i).map Sum.inl ∧ H2 sl = some (.lst (ys.map V.int)) ∧ H2 d = some (.dK (wr.map fun p => ((Sum.inl p.1 : Key), V.int p.2)))) ⟨[], (e.trans esl).trans (Ex.new hD), upd_same, rfl, Ex.new hD _ _ hslk, Ex.new hD _ _ (esl _ _ hdk)⟩ (fun i H2 _ ⟨kvs, _, _, _, h4, _⟩ => SqL.of h4) (fun i x H2 hx p => ?_) (fun H2 p => ?_)
      · obtain ⟨kvs, p1, p2, p3, p4, p5⟩ := p
        rw [List.getElem?_map] at hx
        cases e5 : ys[i]? with
        | none => rw [e5] at hx; cases hx
        | some cc =>
          rw [e5] at hx
          cases hx
          have hci : i < ys.length := (List.getElem?_eq_some_iff.mp e5).1
          have hyl : ys.length = wr.length := by rw [hys.length_eq, List.length_map]
          have hin : cc ∈ wr.map (·.1) := hys.mem_iff.mp (List.mem_of_getElem? e5)
          have hsome : ∃ v, valV (wr.map fun p => ((Sum.inl p.1 : Key), V.int p.2)) (Sum.inl cc) = some v := by
            have := keyv wr cc
            rw [decide_eq_true hin] at this
            exact Option.isSome_iff_exists.mp this
          obtain ⟨v, hv⟩ := hsome
          have hlen : kvs.length = i := by
            have := congrArg List.length p3
            rw [List.length_map, List.length_map, List.length_take] at this
            omega
          refine ⟨rfl, ?_⟩
          refine ⟨_, rfl, _, rfl, _, rfl, d, v, rfl, .inl ⟨_, Sum.inl cc, .inl p5, rfl, hv.symm⟩, kvs, Sum.inl cc, rfl, p2, small1000 (by have := hW.len; omega), ?_⟩
          have hnk : (kvs.any fun kv => decide (kv.1 = (Sum.inl cc : Key))) = false := by
            rw [List.any_eq_false]
            intro kv hkv hc
            have hc := of_decide_eq_true hc
            have : (Sum.inl cc : Key) ∈ (ys.take i).map Sum.inl := by
              rw [← p3, ← hc]
              exact List.mem_map.mpr ⟨kv, hkv, rfl⟩
            obtain ⟨c2, hc2, e⟩ := List.mem_map.mp this
            have e6 := Sum.inl.inj e
            subst e6
            have hnd2 : ys.Nodup := hys.nodup_iff.mpr hW.nd
            rw [← List.take_append_drop i ys, List.nodup_append] at hnd2
            refine hnd2.2.2 _ hc2 _ ?_ rfl
            rw [List.drop_eq_getElem_cons hci, (List.getElem?_eq_some_iff.mp e5).2]
            exact .head _
          refine ⟨putK kvs (Sum.inl cc) v, Ex.mut p1 hD0, upd_same, ?_, by rw [upd_ne hnsl]; exact p4, by rw [upd_ne hnd]; exact p5⟩
          unfold putK
          rw [hnk, if_neg Bool.false_ne_true, List.map_append, p3, List.take_succ, e5]
          simp
      · obtain ⟨kvs, p1, p2, p3, p4, p5⟩ := p
        rw [List.length_map, List.take_length] at p3
        exact k D kvs ys H2 hD0 p1 p2 p3 hys
end
end K27
set_option Elab.async false
set_option linter.all false
set_option maxRecDepth 100000
set_option maxHeartbeats 1000000
/-! K27B5: a book made; what a new patch bars. -/
namespace K27
open PySem PySem.Spec PyProof.Rows L2 Evl
local macro_rules | `(tactic| walk_at "rd") => `(tactic| repeat (first | refine ⟨_, _, rfl, rfl, ?_⟩ | refine ⟨_, rfl, ?_⟩ | refine ⟨_, _, _, _, rfl, rfl, SqL.of (by assumption), rfl, ?_⟩ | refine Or.inl ⟨_, rfl, ?_⟩ | refine ⟨Or.inl (by decide), ?_⟩ | refine ⟨(by decide : _ ≠ _), ?_⟩))
section
variable {w : World} {K : PySem.W.Frag} {mg : Str → Option Value} {base : Heap}
theorem sc_Binit : FnScope ["self", "base"] ["self", "base"] (defScope s_Binit) := ⟨rfl, rfl, rfl, by decide +kernel, rfl, by decide +kernel, by decide +kernel⟩
def spInit (K : PySem.W.Frag) : Sp := fun vs H Q _ => ∃ (x dx b : Addr) (xs : List Int), vs = [.ref x, .ref b] ∧ H x = some (.ins (He.ga K "Book") dx []) ∧ H b = some (.lst (xs.map V.int)) ∧ 1 ≤ xs.length ∧ xs.length ≤ 20 ∧
  ∀ (Y : BLay) H', Y.p = x → (∀ A, Good A → A.cells = xs.length → A.n ≤ 30 → BkE K H' Y A 0) → (∀ a ∈ Y.all, a = x ∨ H a = none) → Sm (· = x) H H' → Q .non H'
theorem sm_of {H H1 H2 : Hp} {x : Addr} (e : Ex H H1) (n : ∀ b, b ≠ x → H2 b = H1 b) : Sm (· = x) H H2 := fun b o hb nb => by
  rw [n b nb]
  exact e b o hb
/-- self.f = e at the object x -/
theorem q_sfldP {σ : L2.St} {H : Hp} {i : Nat} {tv : TE} {f : Str} {x dx : Addr} {fs : List (Str × V)} {D : Ends} {tz : TS} (P : V → Hp → Prop) (T : Txt K mg) (hv : ∀ Q : VK, (∀ v H1, Ex H H1 → P v H1 → Q v H1) → tv σ H Q) (ha : σ[i]? = some (some (.ref x))) (hx : H x = some (.ins (He.ga K "Book") dx fs)) (hn : NoAttr K (He.ga K "Book") f) (hl : fs.length < 1000)
    (k : ∀ v H1 H2, Ex H H1 → P v H1 → H2 x = some (.ins (He.ga K "Book") dx (putF f v fs)) → (∀ b, b ≠ x → H2 b = H1 b) → tz D σ H2) : tSeq (sFld K (tVar i) tv f) tz D σ H :=
  hv _ fun v H1 e1 p1 => ⟨_, ha, x, _, dx, fs, rfl, e1 _ _ hx, T.cl, hn, hl, k v H1 _ e1 p1 upd_same fun b hb => upd_ne hb⟩
theorem sfld_go {σ : L2.St} {H : Hp} {ta tv : TE} {f : Str} {D : Ends} (h : tv σ H (fun y H1 => ta σ H1 fun x H2 => ∃ a C dx fs, x = .ref a ∧ H2 a = some (.ins C dx fs) ∧ Cls K C ∧ NoAttr K C f ∧ fs.length < 1000 ∧ D.nx σ (upd H2 a (.ins C dx (putF f y fs))))) : sFld K ta tv f D σ H := h
theorem ok_Binit (T : Txt K mg) : OkC PP w K mg base CX0 1 ("Book", some "__init__") ["self", "base"] (spInit K) :=
  ok0 T.F_Binit sc_Binit (fun _ _ _ _ _ _ us hl => match us, hl with | [_, _], _ => rfl) (by rintro vs H Q E ⟨x, dx, b, xs, rfl, _⟩; rfl) fun f cdv A0 outer s0 H vs Q E hr h => by
    obtain ⟨x, dx, b, xs, rfl, hx, hb, hl1, hl2, k⟩ := h
    refine ⟨_, (pss_cons (ps_if (pt_cmpR op_eq (pe_callB (call_lenK (K := K)) (by rfl) T.z_len (by decide +kernel) (pa_cons (pv 1) pa_nil)) pe_int (nomark _)) (pss_one ps_never) pss_nil) (pss_cons (ps_fld (pv 0) (pe_callB (call_lenK (K := K)) (by rfl) T.z_len (by decide +kernel) (pa_cons (pv 1) pa_nil)) rfl) (pss_cons (ps_fld (pv 0) (pe_callTy (call_listK (K := K)) (by rfl) T.z_list (by decide +kernel) (pa_cons (pv 1) pa_nil)) rfl) (pss_cons (ps_fld (pv 0) (pe_lst pa_nil) rfl) (pss_cons (ps_fld (pv 0) (pe_lst (pa_cons pe_dnewK pa_nil)) rfl) (pss_cons (ps_fld (pv 0) (pe_lst (pa_cons pe_int pa_nil)) rfl) (pss_cons (ps_fld (pv 0) (pe_lst (pa_cons pe_int pa_nil)) rfl) (pss_cons (ps_fld (pv 0) (pe_lst (pa_cons pe_int pa_nil)) rfl) (pss_one (ps_fld (pv 0) (pe_op op_rep (pe_lst (pa_cons pe_int pa_nil)) (pe_fldK (K := K) (pv 0) rfl)) rfl)))))))))), ?_⟩
    have nbx : b ≠ x := ne_of hb hx (fun e => nomatch e)
    have c0 : xs.length ≤ 20 := hl2
    refine q_when (b := false) (et_is (et_test (ev_op (ev_len (ev_var rfl) (SqL.of hb)) ev_c (rv_eq rfl))) (by rw [List.length_map]; exact decide_eq_false (fun e => by injection e with e; omega))) (fun h => by cases h) (fun _ H0 e0 => ?_)
    have nx : ∀ {p : Addr} {Hc : Hp}, Sm (· = x) H Hc → (∃ fs, Hc x = some (.ins (He.ga K "Book") dx fs)) → Hc p = none → H p = none ∧ p ≠ x := fun {p Hc} m ⟨fs, hc⟩ hp => by
      have ne : p ≠ x := fun e => by rw [e, hc] at hp; cases hp
      exact ⟨(m.free hp).resolve_left ne, ne⟩
    have Lst : ∀ {te : TE} {zs : List V} {σ0 : L2.St} {Hc : Hp}, EvL te σ0 Hc zs → ∀ Q : VK, (∀ v H1, Ex Hc H1 → (∃ p, v = .ref p ∧ Hc p = none ∧ H1 p = some (.lst zs)) → Q v H1) → te σ0 Hc Q := fun h Q q => h _ (Ex.refl _) Q fun p H2 np e hp => q _ H2 e ⟨p, rfl, np, hp⟩
    refine q_sfldP (fun v _ => v = .int (xs.length : Int)) T (fun Q q => ev_len (ev_var rfl) (SqL.of (e0 _ _ hb)) _ (Ex.refl _) Q fun H2 e2 => q _ H2 e2 (by rw [List.length_map])) rfl (e0 _ _ hx) T.na_cells (by show 0 < 1000; decide) ?_
    rintro _ H1 Ha e1 rfl hxa na
    have ma := Sm.pre e0 (sm_of e1 na)
    refine q_sfldP (fun v H1 => ∃ p, v = .ref p ∧ Ha p = none ∧ H1 p = some (.lst (xs.map V.int))) T (Lst (el_list (ev_var rfl) (SqL.of (ma _ _ hb nbx)))) rfl hxa T.na_base (by show 1 < 1000; decide) ?_
    rintro _ H2 Hb e2 ⟨bs, rfl, nbs, _⟩ hxb nb
    have mb := ma.trans (sm_of e2 nb)
    refine q_sfldP (fun v H1 => ∃ p, v = .ref p ∧ Hb p = none ∧ H1 p = some (.lst [])) T (Lst (el_lst ea_nil (by show 0 ≤ 100000; decide))) rfl hxb T.na_numbers (by show 2 < 1000; decide) ?_
    rintro _ H3 Hc e3 ⟨ln, rfl, nln, hln⟩ hxc nc
    have mc := mb.trans (sm_of e3 nc)
    obtain ⟨nln0, lnx⟩ := nx mb ⟨_, hxb⟩ nln
    have hlnc : Hc ln = some (.lst []) := by rw [nc _ lnx]; exact hln
    refine q_sfldP (fun v H1 => ∃ p z, v = .ref p ∧ Hc p = none ∧ H1 p = some (.lst [z])) T (fun Q q => ?_) rfl hxc T.na_values (by show 3 < 1000; decide) ?_
    · intro dd hdd
      exact ⟨sz_of (by show 1 ≤ 100000; decide), fun p hp => q _ _ ((Ex.new hdd).trans (Ex.new hp)) ⟨p, .ref dd, rfl, fresh_back (Ex.new hdd) hp, upd_same⟩⟩
    rintro _ H4 Hd e4 ⟨lv, zv, rfl, nlv, hlv⟩ hxd nd
    obtain ⟨nlv0, lvx⟩ := nx mc ⟨_, hxc⟩ nlv
    have v1 : ln ≠ lv := ne_of_none hlnc nlv
    have m4 := sm_of e4 nd
    have md := mc.trans m4
    have hlnd := m4 _ _ hlnc lnx
    have hlvd : Hd lv = some (.lst [zv]) := by rw [nd _ lvx]; exact hlv
    refine q_sfldP (fun v H1 => ∃ p, v = .ref p ∧ Hd p = none ∧ H1 p = some (.lst [.int 0])) T (Lst (el_lst (ea_cons ev_c ea_nil) (by show 1 ≤ 100000; decide))) rfl hxd T.na_sizes (by show 4 < 1000; decide) ?_
    rintro _ H5 He' e5 ⟨ls, rfl, nls, hls⟩ hxe ne
    obtain ⟨nls0, lsx⟩ := nx md ⟨_, hxd⟩ nls
    have v2 : ln ≠ ls := ne_of_none hlnd nls
    have v3 : lv ≠ ls := ne_of_none hlvd nls
    have m5 := sm_of e5 ne
    have me := md.trans m5
    have hlne := m5 _ _ hlnd lnx
    have hlve := m5 _ _ hlvd lvx
    have hlse : He' ls = some (.lst [.int 0]) := by rw [ne _ lsx]; exact hls
    refine q_sfldP (fun v H1 => ∃ p, v = .ref p ∧ He' p = none ∧ H1 p = some (.lst [.int 0])) T (Lst (el_lst (ea_cons ev_c ea_nil) (by show 1 ≤ 100000; decide))) rfl hxe T.na_needs (by show 5 < 1000; decide) ?_
    rintro _ H6 Hf e6 ⟨le, rfl, nle, hle⟩ hxf nf
    obtain ⟨nle0, lex⟩ := nx me ⟨_, hxe⟩ nle
    have v4 : ln ≠ le := ne_of_none hlne nle
    have v5 : lv ≠ le := ne_of_none hlve nle
    have v6 : ls ≠ le := ne_of_none hlse nle
    have m6 := sm_of e6 nf
    have mf := me.trans m6
    have hlnf := m6 _ _ hlne lnx
    have hlvf := m6 _ _ hlve lvx
    have hlsf := m6 _ _ hlse lsx
    have hlef : Hf le = some (.lst [.int 0]) := by rw [nf _ lex]; exact hle
    refine q_sfldP (fun v H1 => ∃ p, v = .ref p ∧ Hf p = none ∧ H1 p = some (.lst [.int 0])) T (Lst (el_lst (ea_cons ev_c ea_nil) (by show 1 ≤ 100000; decide))) rfl hxf T.na_bars (by show 6 < 1000; decide) ?_
    rintro _ H7 Hg e7 ⟨lb, rfl, nlb, hlb⟩ hxg ng
    obtain ⟨nlb0, lbx⟩ := nx mf ⟨_, hxf⟩ nlb
    have v7 : ln ≠ lb := ne_of_none hlnf nlb
    have v8 : lv ≠ lb := ne_of_none hlvf nlb
    have v9 : ls ≠ lb := ne_of_none hlsf nlb
    have v10 : le ≠ lb := ne_of_none hlef nlb
    have m7 := sm_of e7 ng
    have mg' := mf.trans m7
    have hlng := m7 _ _ hlnf lnx
    have hlvg := m7 _ _ hlvf lvx
    have hlsg := m7 _ _ hlsf lsx
    have hleg := m7 _ _ hlef lex
    have hlbg : Hg lb = some (.lst [.int 0]) := by rw [ng _ lbx]; exact hlb
    refine sfld_go (op_go ?_)
    refine el_lst (vs := [.int 0]) (ea_cons ev_c ea_nil) (by show 1 ≤ 100000; decide) Hg (Ex.refl _) _ fun l0 H8 nl0 e8 hl0 => ?_
    refine ⟨_, rfl, x, _, dx, _, .int (xs.length : Int), rfl, e8 _ _ hxg, T.cl, T.na_cells, rfl, l0, _, _, rfl, rfl, hl0, by omega, by omega, sz_of (by simp; omega), fun lw hlw => ?_⟩
    have nlwg := fresh_back e8 hlw
    obtain ⟨nlw0, lwx⟩ := nx mg' ⟨_, hxg⟩ nlwg
    have e9 := e8.trans (Ex.new (o := .lst (List.replicate (xs.length : Int).toNat [V.int 0]).flatten) hlw)
    refine ⟨_, rfl, x, _, dx, _, rfl, e9 _ _ hxg, T.cl, T.na_writers, by show 7 < 1000; decide, ?_⟩
    have w1 : ln ≠ lw := ne_of_none hlng nlwg
    have w2 : lv ≠ lw := ne_of_none hlvg nlwg
    have w3 : ls ≠ lw := ne_of_none hlsg nlwg
    have w4 : le ≠ lw := ne_of_none hleg nlwg
    have w5 : lb ≠ lw := ne_of_none hlbg nlwg
    have rep : ∀ n : Nat, (List.replicate n [V.int 0]).flatten = nv ((List.range n).map fun _ => 0) := fun n => by
      induction n with
      | zero => rfl
      | succ n ih =>
        rw [List.replicate_succ', List.flatten_append, ih, List.range_succ]
        simp [nv]
    refine k ⟨x, dx, bs, ln, lv, ls, le, lb, lw⟩ _ rfl (fun A hG hc hn => ⟨fun _ => 0, fun _ => 0, fun _ => 0, ?_⟩) (fun a ha => ?_) (mg'.trans ((Sm.of e9).upd (.inl rfl)))
    · refine ⟨?_, ?_, ?_, ⟨[zv], ?_, rfl⟩, ⟨[.int 0], ?_, rfl⟩, ?_, ?_, ?_, fun i hi o => ?_, fun i hi o => ?_, fun i hi o => ?_, Nat.zero_le _, hn, by omega, by omega⟩
      · simp [BLay.all, v1, v2, v3, v4, v5, v6, v7, v8, v9, v10, w1, w2, w3, w4, w5, lnx.symm, lvx.symm, lsx.symm, lex.symm, lbx.symm, lwx.symm]
      · rw [hc]; exact upd_same
      · rw [upd_ne lnx]; exact e9 _ _ hlng
      · rw [upd_ne lvx]; exact e9 _ _ hlvg
      · rw [upd_ne lsx]; exact e9 _ _ hlsg
      · rw [upd_ne lex]; exact e9 _ _ hleg
      · rw [upd_ne lbx]; exact e9 _ _ hlbg
      · rw [upd_ne lwx, upd_same, Int.toNat_natCast, rep, hc]
      · have : i = 0 := Nat.le_zero.mp hi
        subst this
        rw [Nat.zero_testBit]
        show false = A.R 0 o
        cases q : A.R 0 o with
        | false => rfl
        | true => have := hG.rrng 0 o q; omega
      · have : i = 0 := Nat.le_zero.mp hi
        subst this
        rw [Nat.zero_testBit]
        show false = (A.B 0 o && decide (o ≤ 0))
        cases q : A.B 0 o with
        | false => rfl
        | true => have := hG.brng 0 o q; omega
      · rw [Nat.zero_testBit]
        have h0 : ¬ (1 ≤ o ∧ o ≤ 0) := by omega
        show false = (decide (1 ≤ o ∧ o ≤ 0) && _)
        rw [decide_eq_false h0]
        rfl
    · simp only [BLay.all, List.mem_cons, List.mem_nil_iff, or_false] at ha
      rcases ha with rfl | rfl | rfl | rfl | rfl | rfl | rfl
      · exact .inl rfl
      · exact .inr nln0
      · exact .inr nlv0
      · exact .inr nls0
      · exact .inr nle0
      · exact .inr nlb0
      · exact .inr nlw0
theorem sc_Bnew_bars : FnScope ["self", "values", "needs", "direct", "hit", "cell", "other", "bars"] ["self", "values", "needs", "direct"] (defScope s_Bnew_bars) := ⟨rfl, rfl, rfl, by decide +kernel, rfl, by decide +kernel, by decide +kernel⟩
def spNewBars (K : PySem.W.Frag) : Sp := fun vs H Q _ => ∃ (Y : BLay) (A : Ab) (j : Nat) (fN fB fW : Nat → Nat) (d : Addr) (kvs : List (Key × V)) (ks : List Int) (wr : List (Int × Int)) (nm dr : Nat) (N : Nat → Bool) (qua : List Nat), vs = [.ref Y.p, .ref d, .int (nm : Int), .int (dr : Int)] ∧ Bk K H Y A j fN fB fW ∧ Good A ∧
  H d = some (.dK kvs) ∧ kvs.map (·.1) = ks.map Sum.inl ∧ ks.Perm (wr.map (·.1)) ∧ Wok A.cells wr ∧ Bt nm N ∧ (∀ o, N o = true → 1 ≤ o ∧ o ≤ j) ∧ Bt dr (fun o => decide (o ∈ qua)) ∧ (∀ o ∈ qua, 1 ≤ o ∧ o ≤ j) ∧
  ∀ m : Nat, (∀ o, m.testBit o = true ↔ (1 ≤ o ∧ o ≤ j) ∧ BarP A wr N qua o) → RetV (.int (m : Int)) H Q
theorem ok_Bnew_bars (T : Txt K mg) : OkC PP w K mg base CX0 2 ("Book", some "_new_bars") ["self", "values", "needs", "direct"] (spNewBars K) :=
  ok0 T.F_Bnew_bars sc_Bnew_bars (fun _ _ _ _ _ _ us hl => match us, hl with | [_, _, _, _], _ => rfl) (by rintro vs H Q E ⟨Y, A, j, fN, fB, fW, d, kvs, ks, wr, nm, dr, N, qua, rfl, _⟩; rfl) fun f cdv A0 outer s0 H vs Q E hr h => by
    obtain ⟨Y, A, j, fN, fB, fW, d, kvs, ks, wr, nm, dr, N, qua, rfl, hB, hG, hd, hk, hp, hW, hN, hNr, hD, hDr, k⟩ := h
    refine ⟨_, (pss_cons (ps_set (i := 4) sc_Bnew_bars.nd rfl (Or.inl rfl) (pv 3)) (pss_cons (ps_lock (ps_for PassesOwn.never rfl (pi_keys (pv 1)) (pg_name (i := 5) sc_Bnew_bars.nd rfl (Or.inl rfl)) (pss_one (ps_set (i := 4) sc_Bnew_bars.nd rfl (Or.inl rfl) (pe_op op_or (pv 4) (pe_op op_and (pe_ix (ix_listK (K := K)) (pe_fldK (K := K) (pv 0) rfl) (pv 5) (fun _ _ => rfl)) (pe_un un_inv (pv 2)))))))) (pss_cons (ps_for PassesOwn.never rfl (pi_tupK (K := K) (pe_m T T.me_members (ok_Bmembers T) (hr.mono (by decide)) pass0 (pv 0) (pa_cons (pv 2) pa_nil))) (pg_name (i := 6) sc_Bnew_bars.nd rfl (Or.inl rfl)) (pss_one (ps_set (i := 4) sc_Bnew_bars.nd rfl (Or.inl rfl) (pe_op op_or (pv 4) (pe_ix (ix_listK (K := K)) (pe_fldK (K := K) (pv 0) rfl) (pv 6) (fun _ _ => rfl)))))) (pss_cons (ps_set (i := 7) sc_Bnew_bars.nd rfl (Or.inl rfl) (pv 4)) (pss_cons (ps_for PassesOwn.never rfl (pi_listK (K := K) (pe_fldK (K := K) (pv 0) rfl)) (pg_name (i := 6) sc_Bnew_bars.nd rfl (Or.inl rfl)) (pss_one (ps_if (pt_cmpR op_ne (pe_op op_and (pe_ix (ix_listK (K := K)) (pe_fldK (K := K) (pv 0) rfl) (pv 6) (fun _ _ => rfl)) (pv 4)) pe_int (nomark _)) (pss_one (ps_set (i := 7) sc_Bnew_bars.nd rfl (Or.inl rfl) (pe_op op_or (pv 7) (pe_op op_oneShl pe_int (pv 6))))) pss_nil))) (pss_one (ps_ret (pv 7)))))))), ?_⟩
    have hnm := hB.nmax
    have hjn := hB.jn
    have nd : ∀ b ∈ Y.all, b ≠ d := fun b hb e => by
      subst e
      simp only [BLay.all, List.mem_cons, List.mem_nil_iff, or_false] at hb
      obtain ⟨xs, ev, _⟩ := hB.v
      obtain ⟨ys, es, _⟩ := hB.s
      rcases hb with rfl | rfl | rfl | rfl | rfl | rfl | rfl
      · rw [hB.p] at hd; cases hd
      · rw [hB.n] at hd; cases hd
      · rw [ev] at hd; cases hd
      · rw [es] at hd; cases hd
      · rw [hB.e] at hd; cases hd
      · rw [hB.b] at hd; cases hd
      · rw [hB.w] at hd; cases hd
    have hcell : ∀ c ∈ ks, ∃ cn : Nat, c = (cn : Int) ∧ cn < A.cells := fun c hc => by
      obtain ⟨p, hp2, rfl⟩ := List.mem_map.mp (hp.mem_iff.mp hc)
      have := hW.rng p hp2
      exact ⟨p.1.toNat, by omega, by omega⟩
    let wB : Int → Nat → Bool := fun c o => decide (1 ≤ o ∧ o ≤ j) && (A.ws o).any (fun p => decide (p.1 = c))
    refine q_asg (v := .int (dr : Int)) (ev_var rfl) fun H1 e1 => ?_
    have hd1 := e1 _ _ hd
    have hB1 := hB.ex e1
    refine q_forK (kvs := kvs) (ks := ks) hk hd1 rfl (fun od i σ' H' => ∃ (m : Nat) (x : Option V), σ' = [some (.ref Y.p), some (.ref d), some (.int (nm : Int)), some (.int (dr : Int)), some (.int (m : Int)), x, none, none] ∧ Sm (· = d) H H' ∧ H' d = some (.frz od (.dK kvs)) ∧ Bt m (fun o => decide (o ∈ qua) || ((ks.take i).any fun c => wB c o && !N o)))
      (fun od => ⟨dr, _, rfl, (Sm.of e1).upd (.inl rfl), upd_same, hD.congr fun o => by simp⟩) (fun od i σ' H' ⟨m, x, _, _, h, _⟩ => h) (fun od i c σ' H' rt bk hc p => ?_) (fun od σ' H' p => ?_)
    · obtain ⟨m, x, rfl, sm, hf, hm⟩ := p
      have hB' := hB.sm sm (fun b hb e => nd b hb e)
      obtain ⟨cn, rfl, hcn⟩ := hcell c (List.mem_of_getElem? hc)
      have bits := bits_sub (hB.bw cn hcn) hN
      refine s_asg (v := .int ((m ||| (fW cn - (fW cn &&& nm)) : Nat) : Int)) (ev_is (ev_op (ev_var rfl) (ev_op (ev_op (ev_fld (ev_var rfl) hB'.p T.cl T.na_writers rfl) (ev_var rfl) (rv_ixL (SqL.of hB'.w) (nv_at hcn))) (ev_un (ev_var rfl) ru_inv) (rv_I0 (g := fun i j => .int (Builtin.bitAnd i j)))) (rv_I0 (g := fun i j => .int (Builtin.bitOr i j)))) (by rw [bAndNot, bOr])) fun H2 e2 => ?_
      refine ⟨_, _, rfl, sm.ex e2, e2 _ _ hf, (bits_or hm bits).congr fun o => ?_⟩
      rw [List.take_succ, hc]
      show ((decide (o ∈ qua) || (List.take i ks).any fun c => wB c o && !N o) || ((decide (1 ≤ o ∧ o ≤ j) && (A.ws o).any fun p => decide (p.1 = (cn : Int))) && !N o)) = (decide (o ∈ qua) || (List.take i ks ++ [(cn : Int)]).any fun c => wB c o && !N o)
      rw [List.any_append, Bool.or_assoc]
      simp [wB]
    · obtain ⟨m, x, rfl, sm, hf, hm⟩ := p
      rw [List.take_length] at hm
      have e2 : Ex H (upd H' d (.dK kvs)) := fun b o hb => by
        by_cases h : b = d
        · subst h
          rw [upd_same, ← hd, hb]
        · rw [upd_ne h]
          exact sm b o hb h
      revert e2
      generalize upd H' d (.dK kvs) = H2
      intro e2
      have hB2 := hB.ex e2
      have hset : ∀ o, ((decide (o ∈ qua) || (ks.any fun c => wB c o && !N o)) = true) ↔ (o ∈ qua ∨ ((1 ≤ o ∧ o ≤ j) ∧ Shares wr (A.ws o) ∧ N o = false)) := fun o => by
        rw [Bool.or_eq_true, decide_eq_true_iff, List.any_eq_true]
        refine or_congr Iff.rfl ?_
        constructor
        · rintro ⟨c, hc, h⟩
          rw [Bool.and_eq_true, Bool.not_eq_true', Bool.and_eq_true, decide_eq_true_iff, List.any_eq_true] at h
          obtain ⟨⟨h1, p, hp1, hp2⟩, h2⟩ := h
          exact ⟨h1, ⟨p, hp1, by rw [of_decide_eq_true hp2]; exact hp.mem_iff.mp hc⟩, h2⟩
        · rintro ⟨h1, ⟨p, hp1, hp2⟩, h2⟩
          refine ⟨p.1, hp.mem_iff.mpr hp2, ?_⟩
          rw [Bool.and_eq_true, Bool.not_eq_true', Bool.and_eq_true, decide_eq_true_iff, List.any_eq_true]
          exact ⟨⟨h1, p, hp1, decide_eq_true rfl⟩, h2⟩
      refine ⟨_, rfl, Y.p, _, _, rfl, hB2.p, rfl, _, rfl, Y.p, Y.ln, j, nm, rfl, hB2.nums, by omega, ?_⟩
      intro tm H3 ntm e3 htm
      have eN : asc j (fun o => nm.testBit o) = asc j N := asc_congr fun o _ _ => hN o
      rw [eN] at htm
      have hB3 := hB2.ex e3
      have e03 := e2.trans e3
      refine ⟨tm, rfl, ⟨_, SqT.of htm⟩, for_tup (xs := nv (asc j N)) (fun i σ' H' => ∃ (m : Nat) (x y : Option V), σ' = [some (.ref Y.p), some (.ref d), some (.int (nm : Int)), some (.int (dr : Int)), some (.int (m : Int)), x, y, none] ∧ Ex H3 H' ∧ Bt m (fun o => (decide (o ∈ qua) || (ks.any fun c => wB c o && !N o)) || (((asc j N).take i).any fun x => A.B x o && decide (o ≤ j)))) ⟨m, _, _, rfl, Ex.refl _, hm.congr fun o => by simp⟩ (fun i σ' H' _ ⟨m, x, y, _, e, _⟩ => SqT.of (e _ _ htm)) (fun i x σ' H' hx p => ?_) (fun σ' H' p => ?_)⟩
      · obtain ⟨m2, x2, y2, rfl, e4, hm2⟩ := p
        obtain ⟨o2, ho2, rfl⟩ := nv_get hx
        have hor := mem_asc.mp (List.mem_of_getElem? ho2)
        have hB4 := hB3.ex e4
        refine s_asg (v := .int ((m2 ||| fB o2 : Nat) : Int)) (ev_is (ev_op (ev_var rfl) (ev_op (ev_fld (ev_var rfl) hB4.p T.cl T.na_bars rfl) (ev_var rfl) (rv_ixL (SqL.of hB4.b) (nv_at (by omega)))) (rv_I0 (g := fun i j => .int (Builtin.bitOr i j)))) (by rw [bOr])) fun H5 e5 => ?_
        refine ⟨_, _, _, rfl, e4.trans e5, (bits_or hm2 (hB.bb o2 hor.1.2)).congr fun o => ?_⟩
        rw [List.take_succ, ho2]
        show _ = (_ || (List.take i (asc j N) ++ [o2]).any _)
        rw [List.any_append, ← Bool.or_assoc]
        simp
      · obtain ⟨m2, x2, y2, rfl, e4, hm2⟩ := p
        rw [nv_len, List.take_length] at hm2
        have e04 := e03.trans e4
        have hB4 := hB3.ex e4
        have hitI : ∀ o, m2.testBit o = true ↔ (1 ≤ o ∧ o ≤ j) ∧ HitP A wr N qua o := fun o => by
          rw [hm2 o]
          show ((decide (o ∈ qua) || (ks.any fun c => wB c o && !N o)) || ((asc j N).any fun x => A.B x o && decide (o ≤ j))) = true ↔ _
          rw [Bool.or_eq_true, hset o, List.any_eq_true]
          unfold HitP
          constructor
          · rintro ((h | ⟨h1, h2, h3⟩) | ⟨x, hx, h⟩)
            · exact ⟨hDr o h, .inl h⟩
            · exact ⟨h1, .inr (.inr ⟨h2, h3⟩)⟩
            · rw [Bool.and_eq_true, decide_eq_true_iff] at h
              have := hG.brng o x (by rw [hG.sym]; exact h.1)
              exact ⟨⟨this.1, h.2⟩, .inr (.inl ⟨x, (mem_asc.mp hx).2, h.1⟩)⟩
          · rintro ⟨h1, h | ⟨x, hx, hb⟩ | ⟨h2, h3⟩⟩
            · exact .inl (.inl h)
            · exact .inr ⟨x, mem_asc.mpr ⟨hNr x hx, hx⟩, by rw [Bool.and_eq_true, decide_eq_true_iff]; exact ⟨hb, h1.2⟩⟩
            · exact .inl (.inr ⟨h1, h2, h3⟩)
        refine q_asg (v := .int (m2 : Int)) (ev_var rfl) fun H5 e5 => ?_
        have hB5 := hB4.ex e5
        have e05 := e04.trans e5
        refine q_forLn (xs := nv (List.range' 1 j)) (ev_nums T (ev_var rfl) hB5.nums) (SqL.of hB5.n) (fun i σ' H' => ∃ (m3 : Nat) (y : Option V), σ' = [some (.ref Y.p), some (.ref d), some (.int (nm : Int)), some (.int (dr : Int)), some (.int (m2 : Int)), x2, y, some (.int (m3 : Int))] ∧ Ex H5 H' ∧ ∀ o, m3.testBit o = true ↔ (m2.testBit o = true ∨ ((1 ≤ o ∧ o ≤ i) ∧ ∃ q, A.R o q = true ∧ m2.testBit q = true)))
          (fun H6 e6 => ⟨m2, _, rfl, e6, fun o => ⟨.inl, fun h => by rcases h with h | ⟨h, _⟩; exact h; omega⟩⟩) (fun i σ' H' _ ⟨m3, y, _, e, _⟩ => SqL.of (e _ _ hB5.n)) (fun i x σ' H' hx p => ?_) (fun σ' H' p => ?_)
        · obtain ⟨m3, y, rfl, e6, hm3⟩ := p
          obtain ⟨n, hn, rfl⟩ := nv_get hx
          have hni : n = i + 1 ∧ i < j := by
            obtain ⟨h2, h3⟩ := List.getElem?_eq_some_iff.mp hn
            rw [List.length_range'] at h2
            rw [List.getElem_range'] at h3
            omega
          obtain ⟨rfl, hij⟩ := hni
          have hB6 := hB5.ex e6
          have tst : (!decide (V.int ((fN (i + 1) &&& m2 : Nat) : Int) = V.int 0)) = true ↔ ∃ q, A.R (i + 1) q = true ∧ m2.testBit q = true := by
            rw [Bool.not_eq_true', decide_eq_false_iff_not]
            constructor
            · intro h
              have hne : (fN (i + 1) &&& m2) ≠ 0 := fun e => h (by rw [e]; rfl)
              obtain ⟨q, hq⟩ := bit_of_ne hne
              rw [Nat.testBit_and, Bool.and_eq_true, hB.be (i + 1) (by omega) q] at hq
              exact ⟨q, hq.1, hq.2⟩
            · rintro ⟨q, h1, h2⟩ h
              have h0 : (fN (i + 1) &&& m2) = 0 := by injection h with h; omega
              have : (fN (i + 1) &&& m2).testBit q = true := by rw [Nat.testBit_and, hB.be (i + 1) (by omega) q, h2]; simp [h1]
              rw [h0, Nat.zero_testBit] at this
              cases this
          refine s_when (b := !decide (V.int ((fN (i + 1) &&& m2 : Nat) : Int) = V.int 0)) (et_is (et_test (ev_op (ev_op (ev_op (ev_fld (ev_var rfl) hB6.p T.cl T.na_needs rfl) (ev_var rfl) (rv_ixL (SqL.of hB6.e) (nv_at (by omega)))) (ev_var rfl) (rv_I0 (g := fun i j => .int (Builtin.bitAnd i j)))) ev_c (rv_ne rfl))) (by rw [bAnd])) (fun hb H7 e7 => ?_) (fun hb H7 e7 => ?_)
          · refine s_asg (v := .int ((m3 ||| 2 ^ (i + 1) : Nat) : Int)) (ev_is (ev_op (ev_var rfl) (ev_op ev_c (ev_var rfl) (rv_shl (by omega))) (rv_I0 (g := fun i j => .int (Builtin.bitOr i j)))) (by rw [bOr])) fun H8 e8 => ?_
            refine ⟨_, _, rfl, (e6.trans e7).trans e8, fun o => ?_⟩
            rw [Nat.testBit_or, Bool.or_eq_true, hm3 o, bits_one (i + 1) o]
            have hx2 := tst.mp hb
            constructor
            · rintro ((h | ⟨h1, h2⟩) | h)
              · exact .inl h
              · exact .inr ⟨⟨h1.1, by omega⟩, h2⟩
              · have := of_decide_eq_true h
                subst this
                exact .inr ⟨⟨by omega, Nat.le_refl _⟩, hx2⟩
            · rintro (h | ⟨h1, h2⟩)
              · exact .inl (.inl h)
              · by_cases e : o = i + 1
                · exact .inr (decide_eq_true e.symm)
                · exact .inl (.inr ⟨⟨h1.1, by omega⟩, h2⟩)
          · refine ⟨_, _, rfl, e6.trans e7, fun o => ?_⟩
            rw [hm3 o]
            have hx2 : ¬ ∃ q, A.R (i + 1) q = true ∧ m2.testBit q = true := fun h => by rw [tst.mpr h] at hb; cases hb
            constructor
            · rintro (h | ⟨h1, h2⟩)
              · exact .inl h
              · exact .inr ⟨⟨h1.1, by omega⟩, h2⟩
            · rintro (h | ⟨h1, h2⟩)
              · exact .inl h
              · by_cases e : o = i + 1
                · subst e
                  exact absurd h2 hx2
                · exact .inr ⟨⟨h1.1, by omega⟩, h2⟩
        · obtain ⟨m3, y, rfl, e6, hm3⟩ := p
          rw [nv_len, List.length_range'] at hm3
          refine s_ret (ev_var rfl) fun H7 e7 => k m3 (fun o => ?_) _ ((e05.trans e6).trans e7)
          rw [hm3 o]
          unfold BarP
          constructor
          · rintro (h | ⟨h1, q, h2, h3⟩)
            · have := (hitI o).mp h
              exact ⟨this.1, .inl this.2⟩
            · exact ⟨h1, .inr ⟨q, h2, ((hitI q).mp h3).2⟩⟩
          · rintro ⟨h1, h | ⟨q, h2, h3⟩⟩
            · exact .inl ((hitI o).mpr ⟨h1, h⟩)
            · have := hG.r_lt o q h2
              exact .inr ⟨h1, q, h2, (hitI q).mpr ⟨⟨this.1, by omega⟩, h3⟩⟩
end
end K27
set_option Elab.async false
set_option linter.all false
set_option maxRecDepth 100000
set_option maxHeartbeats 1000000
/-! K27B6: a patch made. -/
namespace K27
open PySem PySem.Spec PyProof.Rows L2 Evl
local macro_rules | `(tactic| walk_at "rd") => `(tactic| repeat (first | refine ⟨_, _, rfl, rfl, ?_⟩ | refine ⟨_, rfl, ?_⟩ | refine ⟨_, _, _, _, rfl, rfl, SqL.of (by assumption), rfl, ?_⟩ | refine Or.inl ⟨_, rfl, ?_⟩ | refine ⟨Or.inl (by decide), ?_⟩ | refine ⟨(by decide : _ ≠ _), ?_⟩))
theorem map_set {α : Type} {n i : Nat} (g : Nat → α) (v : α) (hi : i < n) : ((List.range n).map g).set i v = (List.range n).map (fun k => if k = i then v else g k) := by
  apply List.ext_getElem
  · simp
  · intro k h1 h2
    rw [List.getElem_set]
    simp only [List.getElem_map, List.getElem_range]
    by_cases e : i = k
    · subst e; simp
    · have e' : ¬ k = i := fun h => e h.symm
      simp [e, e']
theorem nv_set {n i : Nat} (g : Nat → Nat) (v : Nat) (hi : i < n) : (nv ((List.range n).map g)).set i (.int (v : Int)) = nv ((List.range n).map (fun k => if k = i then v else g k)) := by
  unfold nv
  rw [List.map_map, map_set _ _ hi, List.map_map]
  refine List.map_congr_left fun k _ => ?_
  simp only [Function.comp]
  split <;> rfl
section
variable {w : World} {K : PySem.W.Frag} {mg : Str → Option Value} {base : Heap}
/-- self._x.append(e) -/
theorem q_fapp {σ : L2.St} {H : Hp} {te : TE} {f : Str} {x dx l : Addr} {i : Nat} {fs : List (Str × V)} {zs : List V} {v : V} {D : Ends} {tz : TS} (T : Txt K mg) (ha : σ[i]? = some (some (.ref x))) (hx : H x = some (.ins (He.ga K "Book") dx fs)) (hn : NoAttr K (He.ga K "Book") f) (hf : fs.lookup f = some (.ref l))
    (hl : H l = some (.lst zs)) (hz : zs.length ≤ 1000) (h : Ev te σ H v) (k : ∀ H1 H2, Ex H H1 → H2 l = some (.lst (zs ++ [v])) → (∀ b, b ≠ l → H2 b = H1 b) → tz D σ H2) : tSeq (tDrop (tBM K "list" rAppend (tFld K (tVar i) f) (tCons te tNil))) tz D σ H :=
  q_app hl (ev_fld (ev_var ha) hx T.cl hn hf) h (by omega) fun H1 e1 => k H1 _ e1 upd_same fun b hb => upd_ne hb
theorem sc_Bmake_patch : FnScope ["self", "writes", "requires", "conflicts", "size", "values", "other", "number", "needs", "bars", "first", "others", "cell"] ["self", "writes", "requires", "conflicts", "size"] (defScope s_Bmake_patch) := ⟨rfl, rfl, rfl, by decide +kernel, rfl, by decide +kernel, by decide +kernel⟩
abbrev mkSt (p wa ra ca : Addr) (sz : Int) (d : Addr) (x6 x7 x8 x9 x12 : Option V) : L2.St := [some (.ref p), some (.ref wa), some (.ref ra), some (.ref ca), some (.int sz), some (.ref d), x6, x7, x8, x9, none, none, x12]
def spMake (K : PySem.W.Frag) : Sp := fun vs H Q _ => ∃ (Y : BLay) (A : Ab) (j : Nat) (wa ra ca : Addr) (ts : List Addr), vs = [.ref Y.p, .ref wa, .ref ra, .ref ca, .int (A.sz (j + 1))] ∧ BkE K H Y A j ∧ Good A ∧ j + 1 ≤ A.n ∧ SqL K H wa (ts.map V.ref) ∧ Tups H ts (A.ws (j + 1)) ∧ SqT K H ra (nv (A.dem (j + 1))) ∧ SqT K H ca (nv (A.qua (j + 1))) ∧
  ∀ H', BkE K H' Y A (j + 1) → Sm (fun b => b ∈ Y.all) H H' → Q (.int ((j + 1 : Nat) : Int)) H'
theorem ok_Bmake_patch (T : Txt K mg) : ∃ fd, FnOk PP w K mg base CX0 3 (He.fAd K ("Book", some "make_patch")) fd ["self", "writes", "requires", "conflicts", "size"] (spMake K) ∧ KBn K fd ["self", "writes", "requires", "conflicts", "size"] 2 ["requires", "conflicts", "size"] (fun us ws => us ++ ws) (fun vs zs => vs ++ zs) := by
  obtain ⟨fd, F⟩ := T.F_Bmake_patch
  refine ⟨fd, F.ok sc_Bmake_patch (by rintro vs H Q E ⟨Y, A, j, wa, ra, ca, ts, rfl, _⟩; rfl) ?_, ?_⟩
  · intro cdv A0 outer s0 H vs Q E hr h
    suffices hx : ∃ t, PSs (cxOf CX0 PP w K mg base ["self", "writes", "requires", "conflicts", "size", "values", "other", "number", "needs", "bars", "first", "others", "cell"] d_Bmake_patch.qual d_Bmake_patch.scope (He.fAd K d_Bmake_patch.at_) cdv A0 outer s0 H E).nox d_Bmake_patch.body t ∧ t { nx := fun _ H' => Q .non H', rt := Q } (L2.start ["self", "writes", "requires", "conflicts", "size", "values", "other", "number", "needs", "bars", "first", "others", "cell"] vs) H by
      obtain ⟨t, h1, h2⟩ := hx
      exact ⟨t, h1.nox, h2⟩
    obtain ⟨Y, A, j, wa, ra, ca, ts, rfl, ⟨fN, fB, fW, hB⟩, hG, hj, hwa, hT, hra, hca, k⟩ := h
    refine ⟨_, (pss_cons (ps_set (i := 5) sc_Bmake_patch.nd rfl (Or.inl rfl) (pe_c (ok_checked_writes T) (hr.mono (by decide)) T.g_checked_writes pass0 (pa_cons (pv 1) (pa_cons (pe_fldK (K := K) (pv 0) rfl) pa_nil)))) (pss_cons (ps_for PassesOwn.never rfl (pi_tupK (K := K) (pv 2)) (pg_name (i := 6) sc_Bmake_patch.nd rfl (Or.inl rfl)) (pss_one (ps_expr (pe_m T T.me_check_number (ok_Bcheck_number T) (hr.mono (by decide)) pass0 (pv 0) (pa_cons (pv 6) pa_nil))))) (pss_cons (ps_for PassesOwn.never rfl (pi_tupK (K := K) (pv 3)) (pg_name (i := 6) sc_Bmake_patch.nd rfl (Or.inl rfl)) (pss_one (ps_expr (pe_m T T.me_check_number (ok_Bcheck_number T) (hr.mono (by decide)) pass0 (pv 0) (pa_cons (pv 6) pa_nil))))) (pss_cons (ps_if (pt_cmpR op_lt (pv 4) pe_int (nomark _)) (pss_one ps_never) pss_nil) (pss_cons (ps_set (i := 7) sc_Bmake_patch.nd rfl (Or.inl rfl) (pe_op op_add (pe_callB (call_lenK (K := K)) (by rfl) T.z_len (by decide +kernel) (pa_cons (pe_fldK (K := K) (pv 0) rfl) pa_nil)) pe_int)) (pss_cons (ps_set (i := 8) sc_Bmake_patch.nd rfl (Or.inl rfl) (pe_m T T.me_mask_of (ok_Bmask_of T) (hr.mono (by decide)) pass0 (pv 0) (pa_cons (pv 2) pa_nil))) (pss_cons (ps_for PassesOwn.never rfl (pi_tupK (K := K) (pv 2)) (pg_name (i := 6) sc_Bmake_patch.nd rfl (Or.inl rfl)) (pss_one (ps_set (i := 8) sc_Bmake_patch.nd rfl (Or.inl rfl) (pe_op op_or (pv 8) (pe_ix (ix_listK (K := K)) (pe_fldK (K := K) (pv 0) rfl) (pv 6) (fun _ _ => rfl)))))) (pss_cons (ps_set (i := 9) sc_Bmake_patch.nd rfl (Or.inl rfl) (pe_m T T.me_new_bars (ok_Bnew_bars T) (hr.mono (by decide)) pass0 (pv 0) (pa_cons (pv 5) (pa_cons (pv 8) (pa_cons (pe_m T T.me_mask_of (ok_Bmask_of T) (hr.mono (by decide)) pass0 (pv 0) (pa_cons (pv 3) pa_nil)) pa_nil))))) (pss_cons (ps_if (pt_cmpR op_ne (pe_op op_and (pv 9) (pv 8)) pe_int (nomark _)) (pss_cons (ps_set (i := 10) sc_Bmake_patch.nd rfl (Or.inl rfl) (pe_c (ok_least_number T) (hr.mono (by decide)) T.g_least_number pass0 (pa_cons (pe_op op_and (pv 9) (pv 8)) pa_nil))) (pss_cons (ps_set (i := 11) sc_Bmake_patch.nd rfl (Or.inl rfl) (pe_op op_and (pe_ix (ix_listK (K := K)) (pe_fldK (K := K) (pv 0) rfl) (pv 10) (fun _ _ => rfl)) (pv 8))) (pss_one ps_never))) pss_nil) (pss_cons (ps_expr (pe_appK (K := K) (pe_fldK (K := K) (pv 0) rfl) (pa_cons (pv 7) pa_nil))) (pss_cons (ps_expr (pe_appK (K := K) (pe_fldK (K := K) (pv 0) rfl) (pa_cons (pv 5) pa_nil))) (pss_cons (ps_expr (pe_appK (K := K) (pe_fldK (K := K) (pv 0) rfl) (pa_cons (pe_ifExp (pt_cmpR op_gt (pv 4) pe_int (nomark _)) (pv 4) (pe_callB call_lenD (by rfl) T.z_len (by decide +kernel) (pa_cons (pv 5) pa_nil))) pa_nil))) (pss_cons (ps_expr (pe_appK (K := K) (pe_fldK (K := K) (pv 0) rfl) (pa_cons (pv 8) pa_nil))) (pss_cons (ps_expr (pe_appK (K := K) (pe_fldK (K := K) (pv 0) rfl) (pa_cons (pv 9) pa_nil))) (pss_cons (ps_for PassesOwn.never rfl (pi_tupK (K := K) (pe_m T T.me_members (ok_Bmembers T) (hr.mono (by decide)) pass0 (pv 0) (pa_cons (pv 9) pa_nil))) (pg_name (i := 6) sc_Bmake_patch.nd rfl (Or.inl rfl)) (pss_one (ps_asg (pe_op op_or (pe_ix (ix_listK (K := K)) (pe_fldK (K := K) (pv 0) rfl) (pv 6) (fun _ _ => rfl)) (pe_op op_oneShl pe_int (pv 7))) (pg_sub (pe_fldK (K := K) (pv 0) rfl) (pv 6) set_list)))) (pss_cons (ps_lock (ps_for PassesOwn.never rfl (pi_keys (pv 5)) (pg_name (i := 12) sc_Bmake_patch.nd rfl (Or.inl rfl)) (pss_one (ps_asg (pe_op op_or (pe_ix (ix_listK (K := K)) (pe_fldK (K := K) (pv 0) rfl) (pv 12) (fun _ _ => rfl)) (pe_op op_oneShl pe_int (pv 7))) (pg_sub (pe_fldK (K := K) (pv 0) rfl) (pv 12) set_list))))) (pss_one (ps_ret (pv 7))))))))))))))))))), ?_⟩
    have R := hG.row (j + 1) (by omega) hj
    have hnm := hB.nmax
    refine q_do ⟨_, rfl, _, rfl, Y.p, _, _, _, _, rfl, hB.p, T.cl, T.na_cells, rfl, wa, ts, A.ws (j + 1), A.cells, rfl, hwa, hT, R.w, ?_⟩
    intro d kvs ks H1 nd e1 hd hk hperm
    have hB1 := hB.ex e1
    have chk : ∀ (a : Addr) (l : List Nat) (i3 : Nat) (tz : TS) (D : Ends) (H2 : Hp) (x6 : Option V), (mkSt Y.p wa ra ca (A.sz (j + 1)) d x6 none none none none)[i3]? = some (some (.ref a)) → SqT K H1 a (nv l) → (∀ x ∈ l, 1 ≤ x ∧ x < j + 1) → Ex H1 H2 → (∀ x6 H3, Ex H1 H3 → tz D (mkSt Y.p wa ra ca (A.sz (j + 1)) d x6 none none none none) H3) →
        tSeq (tFor (iTup K (tVar i3)) (gName 6) (tDrop (tMeth (He.ga K "Book") "check_number" (spCheck K) [] E0 (tVar 0) (tCons (tVar 6) tNil)))) tz D (mkSt Y.p wa ra ca (A.sz (j + 1)) d x6 none none none none) H2 := fun a l i3 tz D H2 x6 hs hq hl e2 kk =>
      q_forT (xs := nv l) (ev_var hs) (ex_t e2 hq) (fun i σ' H' => ∃ x6, σ' = mkSt Y.p wa ra ca (A.sz (j + 1)) d x6 none none none none ∧ Ex H1 H') (fun H3 e3 => ⟨_, rfl, e2.trans e3⟩) (fun i σ' H' _ ⟨_, _, e⟩ => ex_t e hq) (fun i x σ' H' hx ⟨x6, hσ, e⟩ => by
        subst hσ
        obtain ⟨n, hn, rfl⟩ := nv_get hx
        have hb := hl n (List.mem_of_getElem? hn)
        exact s_drop (ev_check (ev_var rfl) (ev_var rfl) (hB1.ex e) hb.1 (by omega)) fun H3 e3 => ⟨_, rfl, e.trans e3⟩) (fun σ' H' ⟨x6, hσ, e⟩ => by
        subst hσ
        exact kk x6 H' e)
    refine chk ra (A.dem (j + 1)) 2 _ _ H1 none rfl (ex_t e1 hra) R.d_lt (Ex.refl _) fun x6 H2 e2 => ?_
    refine chk ca (A.qua (j + 1)) 3 _ _ H2 x6 rfl (ex_t e1 hca) R.q_lt e2 fun x6' H3 e3 => ?_
    have e03 := e1.trans e3
    refine q_when (b := false) (et_is (et_test (ev_op (ev_var rfl) ev_c rv_I0)) (decide_eq_false (by have := R.sz; omega))) (fun h => by cases h) (fun _ H4 e4 => ?_)
    have hB4 := hB1.ex (e3.trans e4)
    refine q_asg (v := .int ((j + 1 : Nat) : Int)) (ev_is (ev_op (ev_len (ev_nums T (ev_var rfl) hB4.nums) (SqL.of hB4.n)) ev_c rv_I0) (by simp)) fun H5 e5 => ?_
    have hB5 := hB4.ex e5
    have e05 := (e03.trans e4).trans e5
    refine q_do ⟨_, rfl, Y.p, _, _, rfl, hB5.p, rfl, _, rfl, Y.p, ra, A.dem (j + 1), rfl, ex_t e05 hra, fun x hx => by have := R.d_lt x hx; omega, ?_⟩
    intro m0 hm0 H6 e6
    have e06 := e05.trans e6
    refine q_forT (xs := nv (A.dem (j + 1))) (ev_var rfl) (ex_t e06 hra) (fun i σ' H' => ∃ (m : Nat) (x6 : Option V), σ' = mkSt Y.p wa ra ca (A.sz (j + 1)) d x6 (some (.int ((j + 1 : Nat) : Int))) (some (.int (m : Int))) none none ∧ Ex H6 H' ∧ Bt m (fun o => decide (o ∈ A.dem (j + 1)) || ((A.dem (j + 1)).take i).any fun q => A.R q o)) (fun H7 e7 => ⟨m0, _, rfl, e7, hm0.congr fun o => by simp⟩) (fun i σ' H' _ ⟨m, x6, _, e, _⟩ => ex_t (e06.trans e) hra) (fun i x σ' H' hx p => ?_) (fun σ' H7 p => ?_)
    · obtain ⟨m, x6, rfl, e, hm⟩ := p
      obtain ⟨n, hn, rfl⟩ := nv_get hx
      have hb := R.d_lt n (List.mem_of_getElem? hn)
      have hB' := (hB5.ex e6).ex e
      refine s_asg (v := .int ((m ||| fN n : Nat) : Int)) (ev_is (ev_op (ev_var rfl) (ev_op (ev_fld (ev_var rfl) hB'.p T.cl T.na_needs rfl) (ev_var rfl) (rv_ixL (SqL.of hB'.e) (nv_at (by omega)))) (rv_I0 (g := fun i j => .int (Builtin.bitOr i j)))) (by rw [bOr])) fun H8 e8 => ?_
      refine ⟨_, _, rfl, e.trans e8, (bits_or hm (hB.be n (by omega))).congr fun o => ?_⟩
      rw [List.take_succ, hn]
      show ((decide (o ∈ A.dem (j + 1)) || ((A.dem (j + 1)).take i).any fun q => A.R q o) || A.R n o) = (decide (o ∈ A.dem (j + 1)) || ((A.dem (j + 1)).take i ++ [n]).any fun q => A.R q o)
      rw [List.any_append, ← Bool.or_assoc]
      simp
    obtain ⟨nm, x8, rfl, e7, hm7⟩ := p
    rw [nv_len, List.take_length] at hm7
    have hnmB : Bt nm (fun o => A.R (j + 1) o) := hm7.congr fun o => by
      rw [Bool.eq_iff_iff, R.r_eq o]
      unfold NeedP
      rw [Bool.or_eq_true, decide_eq_true_iff, List.any_eq_true]
    have hB7 := (hB5.ex e6).ex e7
    have e07 := e06.trans e7
    have e17 := (((e3.trans e4).trans e5).trans e6).trans e7
    refine q_do ⟨_, rfl, Y.p, _, _, rfl, hB7.p, rfl, _, rfl, _, rfl, _, rfl, Y.p, _, _, rfl, hB7.p, rfl, _, rfl, Y.p, ca, A.qua (j + 1), rfl, ex_t e07 hca, fun x hx => by have := R.q_lt x hx; omega, ?_⟩
    intro dm hdm H8 e8
    have hB8 := hB7.ex e8
    have e18 := e17.trans e8
    refine ⟨Y, A, j, fN, fB, fW, d, kvs, ks, A.ws (j + 1), nm, dm, A.R (j + 1), A.qua (j + 1), rfl, hB8, hG, e18 _ _ hd, hk, hperm, R.w, hnmB, fun o ho => by have := hG.r_lt (j + 1) o ho; omega, hdm, fun o ho => by have := R.q_lt o ho; omega, ?_⟩
    intro bm hbm H9 e9
    have hB9 := hB8.ex e9
    have e19 := e18.trans e9
    have hbB : Bt bm (fun o => decide (1 ≤ o ∧ o ≤ j) && A.B (j + 1) o) := fun o => by
      rw [Bool.eq_iff_iff, hbm o, Bool.and_eq_true, decide_eq_true_iff]
      constructor
      · rintro ⟨h1, h2⟩
        exact ⟨h1, (R.b_eq o h1.1 (by omega)).mpr h2⟩
      · rintro ⟨h1, h2⟩
        exact ⟨h1, (R.b_eq o h1.1 (by omega)).mp h2⟩
    have hz : bm &&& nm = 0 := zero_of_bits (bits_and hbB hnmB) fun o => by
      cases h : A.R (j + 1) o with
      | false => simp
      | true => simp [R.disj o h]
    refine q_when (b := false) (et_is (et_test (ev_op (ev_op (ev_var rfl) (ev_var rfl) (rv_I0 (g := fun i j => .int (Builtin.bitAnd i j)))) ev_c (rv_ne rfl))) (by rw [bAnd, hz]; rfl)) (fun h => by cases h) (fun _ H10 e10 => ?_)
    have hB10 := hB9.ex e10
    have hd10 := (e19.trans e10) _ _ hd
    have e010 := ((e07.trans e8).trans e9).trans e10
    have hnd := hB.nd
    simp only [BLay.all, List.nodup_cons, List.mem_cons, List.mem_nil_iff, or_false, not_or, List.not_mem_nil, not_false_eq_true, and_true] at hnd
    obtain ⟨⟨a1, a2, a3, a4, a5, a6⟩, ⟨b2, b3, b4, b5, b6⟩, ⟨c3, c4, c5, c6⟩, ⟨d4, d5, d6⟩, ⟨f5, f6⟩, g6, _⟩ := hnd
    obtain ⟨vv, hvv, hvl⟩ := hB10.v
    obtain ⟨sv, hsv, hsl⟩ := hB10.s
    have dne : ∀ {b : Addr} {zs : List V}, H10 b = some (.lst zs) → d ≠ b := fun h => ne_of hd10 h (fun e => nomatch e)
    refine q_fapp T rfl hB10.p T.na_numbers rfl hB10.n (by simp; omega) (ev_var rfl) fun H11' H11 e11 hln n11 => ?_
    have m11 := sm_of e11 n11
    refine q_fapp T rfl (m11 _ _ hB10.p a1) T.na_values rfl (m11 _ _ hvv (Ne.symm b2)) (by omega) (ev_var rfl) fun H12' H12 e12 hlv n12 => ?_
    have m12 := sm_of e12 n12
    have hd12 := m12 _ _ (m11 _ _ hd10 (dne hB10.n)) (dne hvv)
    refine q_fapp (v := .int (if (0 : Int) < A.sz (j + 1) then A.sz (j + 1) else (kvs.length : Int))) T rfl (m12 _ _ (m11 _ _ hB10.p a1) a2) T.na_sizes rfl (m12 _ _ (m11 _ _ hsv (Ne.symm b3)) (Ne.symm c3)) (by omega) (ev_if (b := decide ((0 : Int) < A.sz (j + 1))) (et_test (ev_op (ev_var rfl) ev_c rv_I0)) (fun hb => ?_) (fun hb => ?_)) fun H13' H13 e13 hls n13 => ?_
    · rw [if_pos (of_decide_eq_true hb)]
      exact ev_var rfl
    · rw [if_neg (of_decide_eq_false hb)]
      exact fun Hx ex Q q => ⟨_, rfl, d, kvs, rfl, ex _ _ hd12, q Hx (Ex.refl _)⟩
    have m13 := sm_of e13 n13
    refine q_fapp T rfl (m13 _ _ (m12 _ _ (m11 _ _ hB10.p a1) a2) a3) T.na_needs rfl (m13 _ _ (m12 _ _ (m11 _ _ hB10.e (Ne.symm b4)) (Ne.symm c4)) (Ne.symm d4)) (by simp; omega) (ev_var rfl) fun H14' H14 e14 hle n14 => ?_
    have m14 := sm_of e14 n14
    refine q_fapp T rfl (m14 _ _ (m13 _ _ (m12 _ _ (m11 _ _ hB10.p a1) a2) a3) a4) T.na_bars rfl (m14 _ _ (m13 _ _ (m12 _ _ (m11 _ _ hB10.b (Ne.symm b5)) (Ne.symm c5)) (Ne.symm d5)) (Ne.symm f5)) (by simp; omega) (ev_var rfl) fun H15' H15 e15 hlb n15 => ?_
    have m15 := sm_of e15 n15
    have p15 := m15 _ _ (m14 _ _ (m13 _ _ (m12 _ _ (m11 _ _ hB10.p a1) a2) a3) a4) a5
    have ln15 := m15 _ _ (m14 _ _ (m13 _ _ (m12 _ _ hln b2) b3) b4) b5
    have lv15 := m15 _ _ (m14 _ _ (m13 _ _ hlv c3) c4) c5
    have ls15 := m15 _ _ (m14 _ _ hls d4) d5
    have le15 := m15 _ _ hle f5
    have lw15 := m15 _ _ (m14 _ _ (m13 _ _ (m12 _ _ (m11 _ _ hB10.w (Ne.symm b6)) (Ne.symm c6)) (Ne.symm d6)) (Ne.symm f6)) (Ne.symm g6)
    have d15 := m15 _ _ (m14 _ _ (m13 _ _ hd12 (dne hsv)) (dne hB10.e)) (dne hB10.b)
    have s15 : Sm (fun b => b ∈ Y.all) H10 H15 := ((((m11.mono fun b hb => by rw [hb]; simp [BLay.all]).trans (m12.mono fun b hb => by rw [hb]; simp [BLay.all])).trans (m13.mono fun b hb => by rw [hb]; simp [BLay.all])).trans (m14.mono fun b hb => by rw [hb]; simp [BLay.all])).trans (m15.mono fun b hb => by rw [hb]; simp [BLay.all])
    have enum : nv (List.range' 1 j) ++ [V.int ((j + 1 : Nat) : Int)] = nv (List.range' 1 (j + 1)) := by
      rw [List.range'_concat, nv_app, show 1 + 1 * j = j + 1 by omega]
      rfl
    rw [enum] at ln15
    have elb : nv ((List.range (j + 1)).map fB) ++ [V.int (bm : Int)] = nv ((List.range (j + 1 + 1)).map fun i => if i = j + 1 then bm else fB i) := by
      rw [List.range_succ (n := j + 1), List.map_append, nv_app]
      congr 1
      · unfold nv
        rw [List.map_map, List.map_map]
        refine List.map_congr_left fun i hi => ?_
        have := List.mem_range.mp hi
        have e : ¬ i = j + 1 := by omega
        simp [e]
      · simp [nv]
    rw [elb] at hlb
    have ele : nv ((List.range (j + 1)).map fN) ++ [V.int (nm : Int)] = nv ((List.range (j + 1 + 1)).map fun i => if i = j + 1 then nm else fN i) := by
      rw [List.range_succ (n := j + 1), List.map_append, nv_app]
      congr 1
      · unfold nv
        rw [List.map_map, List.map_map]
        refine List.map_congr_left fun i hi => ?_
        have := List.mem_range.mp hi
        have e : ¬ i = j + 1 := by omega
        simp [e]
      · simp [nv]
    rw [ele] at le15
    refine ⟨_, rfl, Y.p, _, _, rfl, p15, rfl, _, rfl, Y.p, Y.ln, j + 1, bm, rfl, ⟨_, _, p15, rfl, ln15⟩, by omega, ?_⟩
    intro tm H16 ntm e16 htm
    have emem : asc (j + 1) (fun o => bm.testBit o) = asc (j + 1) (fun o => decide (1 ≤ o ∧ o ≤ j) && A.B (j + 1) o) := asc_congr fun o _ _ => hbB o
    rw [emem] at htm
    generalize hM : asc (j + 1) (fun o => decide (1 ≤ o ∧ o ≤ j) && A.B (j + 1) o) = M at htm
    have hMm : ∀ o, o ∈ M ↔ (1 ≤ o ∧ o ≤ j) ∧ A.B (j + 1) o = true := fun o => by
      rw [← hM, mem_asc, Bool.and_eq_true, decide_eq_true_iff]
      constructor
      · rintro ⟨_, h⟩; exact h
      · rintro ⟨h1, h2⟩; exact ⟨⟨h1.1, by omega⟩, h1, h2⟩
    have tmb : tm ≠ Y.lb := (ne_of_none hlb ntm).symm
    refine ⟨tm, rfl, ⟨_, SqT.of htm⟩, for_tup (xs := nv M) (fun i σ' H' => ∃ (x6 : Option V), σ' = mkSt Y.p wa ra ca (A.sz (j + 1)) d x6 (some (.int ((j + 1 : Nat) : Int))) (some (.int (nm : Int))) (some (.int (bm : Int))) none ∧ Sm (· = Y.lb) H16 H' ∧ H' Y.lb = some (.lst (nv ((List.range (j + 1 + 1)).map fun i2 => if i2 ∈ M.take i then (if i2 = j + 1 then bm else fB i2) ||| 2 ^ (j + 1) else if i2 = j + 1 then bm else fB i2)))) ⟨_, rfl, Sm.refl _ _, by simpa using e16 _ _ hlb⟩ (fun i σ' H' _ ⟨x6, _, s, _⟩ => SqT.of (s _ _ htm tmb)) (fun i x σ' H' hx p => ?_) (fun σ' H17 p => ?_)⟩
    · obtain ⟨x6, rfl, s, hb⟩ := p
      obtain ⟨n, hn, rfl⟩ := nv_get hx
      have hnM := (hMm n).mp (List.mem_of_getElem? hn)
      have hp' := s _ _ (e16 _ _ p15) a5
      have hnt : n ∉ M.take i := fun hin => by
        have hs : M.Pairwise (· < ·) := by rw [← hM]; exact asc_sorted _ _
        have hi : i < M.length := (List.getElem?_eq_some_iff.mp hn).1
        have hg : M[i] = n := (List.getElem?_eq_some_iff.mp hn).2
        obtain ⟨q, hq, eq⟩ := List.mem_iff_getElem.mp hin
        have hq2 : q < i := by rw [List.length_take] at hq; omega
        rw [List.getElem_take] at eq
        have := List.pairwise_iff_getElem.mp hs q i (by omega) hi hq2
        omega
      have hn1 : ¬ n = j + 1 := by omega
      have gv : (if n ∈ M.take i then (if n = j + 1 then bm else fB n) ||| 2 ^ (j + 1) else if n = j + 1 then bm else fB n) = fB n := by rw [if_neg hnt, if_neg hn1]
      refine s_setL (j := n) (v := .int ((fB n ||| 2 ^ (j + 1) : Nat) : Int)) hb (ev_is (ev_op (ev_op (ev_fld (ev_var rfl) hp' T.cl T.na_bars rfl) (ev_var rfl) (rv_ixL (SqL.of hb) (nv_at (by omega)))) (ev_op ev_c (ev_var rfl) (rv_shl (by omega))) (rv_I0 (g := fun i j => .int (Builtin.bitOr i j)))) (by rw [gv, bOr])) (ev_fld (ev_var rfl) hp' T.cl T.na_bars rfl) (ev_var rfl) (by simp; omega) fun H18 e18 => ⟨_, rfl, (s.ex e18).upd (.inl rfl), ?_⟩
      rw [upd_same, nv_set _ _ (by omega)]
      congr 2
      refine congrArg nv (List.map_congr_left fun i2 _ => ?_)
      rw [List.take_succ, hn]
      by_cases e : i2 = n
      · subst e
        have : ¬ i2 = j + 1 := hn1
        simp [this]
      · simp [e]
    · obtain ⟨x6, rfl, s, hb⟩ := p
      rw [nv_len, List.take_length] at hb
      have hp17 := s _ _ (e16 _ _ p15) a5
      have ln17 := s _ _ (e16 _ _ ln15) b5
      have lv17 := s _ _ (e16 _ _ lv15) c5
      have ls17 := s _ _ (e16 _ _ ls15) d5
      have le17 := s _ _ (e16 _ _ le15) f5
      have lw17 := s _ _ (e16 _ _ lw15) (Ne.symm g6)
      have d17 := s _ _ (e16 _ _ d15) (dne hB10.b)
      have hcell : ∀ c ∈ ks, ∃ cn : Nat, c = (cn : Int) ∧ cn < A.cells := fun c hc => by
        obtain ⟨p, hp2, rfl⟩ := List.mem_map.mp (hperm.mem_iff.mp hc)
        have := R.w.rng p hp2
        exact ⟨p.1.toNat, by omega, by omega⟩
      refine q_forK (kvs := kvs) (ks := ks) hk d17 rfl (fun od i σ' H' => ∃ (x12 : Option V), σ' = mkSt Y.p wa ra ca (A.sz (j + 1)) d x6 (some (.int ((j + 1 : Nat) : Int))) (some (.int (nm : Int))) (some (.int (bm : Int))) x12 ∧ Sm (fun b => b = Y.lw ∨ b = d) H17 H' ∧ H' d = some (.frz od (.dK kvs)) ∧ H' Y.lw = some (.lst (nv ((List.range A.cells).map fun (c : Nat) => if (c : Int) ∈ ks.take i then fW c ||| 2 ^ (j + 1) else fW c))))
        (fun od => ⟨_, rfl, (Sm.refl _ _).upd (.inl (.inr rfl)), upd_same, by rw [upd_ne (Ne.symm (dne hB10.w)), lw17]; simp⟩) (fun od i σ' H' ⟨x, _, _, h, _⟩ => h) (fun od i c σ' H' rt bk hc p => ?_) (fun od σ' H' p => ?_)
      · obtain ⟨x12, rfl, sm, hf, hw⟩ := p
        obtain ⟨cn, rfl, hcn⟩ := hcell c (List.mem_of_getElem? hc)
        have hp' := sm _ _ hp17 (fun h => h.elim a6 (ne_of hp17 d17 (fun e => nomatch e)))
        have hnt : ¬ ((cn : Int) ∈ ks.take i) := fun hin => by
          have hnd2 : ks.Nodup := hperm.nodup_iff.mpr R.w.nd
          have hi : i < ks.length := (List.getElem?_eq_some_iff.mp hc).1
          rw [← List.take_append_drop i ks, List.nodup_append] at hnd2
          refine hnd2.2.2 _ hin _ ?_ rfl
          rw [List.drop_eq_getElem_cons hi, (List.getElem?_eq_some_iff.mp hc).2]
          exact .head _
        refine s_setL (j := cn) (v := .int ((fW cn ||| 2 ^ (j + 1) : Nat) : Int)) hw (ev_is (ev_op (ev_op (ev_fld (ev_var rfl) hp' T.cl T.na_writers rfl) (ev_var rfl) (rv_ixL (SqL.of hw) (nv_at hcn))) (ev_op ev_c (ev_var rfl) (rv_shl (by omega))) (rv_I0 (g := fun i j => .int (Builtin.bitOr i j)))) (by rw [if_neg hnt, bOr])) (ev_fld (ev_var rfl) hp' T.cl T.na_writers rfl) (ev_var rfl) (by simp; omega) fun H18 e18 => ⟨_, rfl, (sm.ex e18).upd (.inl (.inl rfl)), by rw [upd_ne (dne hB10.w)]; exact e18 _ _ hf, ?_⟩
        rw [upd_same, nv_set _ _ hcn]
        congr 2
        refine congrArg nv (List.map_congr_left fun i2 _ => ?_)
        rw [List.take_succ, hc]
        by_cases e : i2 = cn
        · subst e; simp
        · have e2 : ¬ ((i2 : Int) = (cn : Int)) := by omega
          simp [e, e2]
      · obtain ⟨x12, rfl, sm, hf, hw⟩ := p
        rw [List.take_length] at hw
        have nd' : ∀ b ∈ Y.all, b ≠ d := fun b hb e => by
          subst e
          exact hB.some hb nd
        have fin : ∀ b o, b ∈ Y.all → b ≠ Y.lw → H17 b = some o → upd H' d (.dK kvs) b = some o := fun b o hb hw' h => by
          rw [upd_ne (nd' b hb)]
          exact sm b o h (fun q => q.elim hw' (nd' b hb))
        have mem : ∀ b, b = Y.p ∨ b = Y.ln ∨ b = Y.lv ∨ b = Y.ls ∨ b = Y.le ∨ b = Y.lb ∨ b = Y.lw → b ∈ Y.all := fun b h => by simpa [BLay.all] using h
        refine ⟨_, rfl, k _ ⟨fun i => if i = j + 1 then nm else fN i, fun i2 => if i2 ∈ M then (if i2 = j + 1 then bm else fB i2) ||| 2 ^ (j + 1) else if i2 = j + 1 then bm else fB i2, fun (c : Nat) => if (c : Int) ∈ ks then fW c ||| 2 ^ (j + 1) else fW c, ?_⟩ ?_⟩
        · refine ⟨hB.nd, fin _ _ (mem _ (.inl rfl)) a6 hp17, fin _ _ (mem _ (.inr (.inl rfl))) b6 ln17, ⟨_, fin _ _ (mem _ (.inr (.inr (.inl rfl)))) c6 lv17, by simp [hvl]⟩, ⟨_, fin _ _ (mem _ (.inr (.inr (.inr (.inl rfl))))) d6 ls17, by simp [hsl]⟩, fin _ _ (mem _ (.inr (.inr (.inr (.inr (.inl rfl)))))) f6 le17, fin _ _ (mem _ (.inr (.inr (.inr (.inr (.inr (.inl rfl))))))) g6 hb, ?_, fun i hi => ?_, fun i hi => ?_, fun c hc => ?_, hj, hnm, hB.c1, hB.c2⟩
          · rw [upd_ne (Ne.symm (dne hB10.w))]; exact hw
          · show Bt (if i = j + 1 then nm else fN i) _
            by_cases e : i = j + 1
            · subst e
              rw [if_pos rfl]
              exact hnmB
            · rw [if_neg e]
              exact hB.be i (by omega)
          · show Bt (if i ∈ M then (if i = j + 1 then bm else fB i) ||| 2 ^ (j + 1) else if i = j + 1 then bm else fB i) _
            by_cases e : i = j + 1
            · subst e
              have hn : ¬ (j + 1 ∈ M) := fun h => by have := (hMm _).mp h; omega
              rw [if_neg hn, if_pos rfl]
              refine hbB.congr fun o => ?_
              show (decide (1 ≤ o ∧ o ≤ j) && A.B (j + 1) o) = (A.B (j + 1) o && decide (o ≤ j + 1))
              cases hq : A.B (j + 1) o with
              | false => simp
              | true =>
                have h1 := hG.brng o (j + 1) (by rw [hG.sym]; exact hq)
                have h2 : o ≠ j + 1 := fun e => by rw [e, hG.irr] at hq; cases hq
                by_cases h3 : o ≤ j
                · rw [decide_eq_true ⟨h1.1, h3⟩, decide_eq_true (by omega : o ≤ j + 1)]
                · have h4 : ¬ o ≤ j + 1 := by omega
                  have h5 : ¬ (1 ≤ o ∧ o ≤ j) := by omega
                  rw [decide_eq_false h5, decide_eq_false h4]; rfl
            · rw [if_neg e]
              have hbase := hB.bb i (by omega)
              by_cases h : i ∈ M
              · rw [if_pos h]
                have hm := (hMm i).mp h
                refine (bits_or hbase (bits_one (j + 1))).congr fun o => ?_
                show ((A.B i o && decide (o ≤ j)) || decide (j + 1 = o)) = (A.B i o && decide (o ≤ j + 1))
                by_cases e2 : j + 1 = o
                · subst e2
                  rw [hG.sym i (j + 1), hm.2]
                  simp
                · have : decide (o ≤ j + 1) = decide (o ≤ j) := by rw [Bool.eq_iff_iff, decide_eq_true_iff, decide_eq_true_iff]; omega
                  rw [decide_eq_false e2, this, Bool.or_false]
              · rw [if_neg h]
                refine hbase.congr fun o => ?_
                show (A.B i o && decide (o ≤ j)) = (A.B i o && decide (o ≤ j + 1))
                by_cases e2 : j + 1 = o
                · subst e2
                  have hf2 : A.B i (j + 1) = false := by
                    cases q : A.B i (j + 1) with
                    | false => rfl
                    | true =>
                      exfalso
                      have h1 := hG.brng i (j + 1) q
                      exact h ((hMm i).mpr ⟨⟨h1.1, by omega⟩, by rw [hG.sym]; exact q⟩)
                  rw [hf2]; rfl
                · have : decide (o ≤ j + 1) = decide (o ≤ j) := by rw [Bool.eq_iff_iff, decide_eq_true_iff, decide_eq_true_iff]; omega
                  rw [this]
          · show Bt (if (c : Int) ∈ ks then fW c ||| 2 ^ (j + 1) else fW c) _
            have hbase := hB.bw c hc
            have hany : (A.ws (j + 1)).any (fun p => decide (p.1 = (c : Int))) = decide ((c : Int) ∈ ks) := by
              rw [Bool.eq_iff_iff, List.any_eq_true, decide_eq_true_iff, hperm.mem_iff, List.mem_map]
              constructor
              · rintro ⟨p, h1, h2⟩; exact ⟨p, h1, of_decide_eq_true h2⟩
              · rintro ⟨p, h1, h2⟩; exact ⟨p, h1, decide_eq_true h2⟩
            have other : ∀ o, o ≠ j + 1 → (decide (1 ≤ o ∧ o ≤ j + 1) : Bool) = decide (1 ≤ o ∧ o ≤ j) := fun o ho => by rw [Bool.eq_iff_iff, decide_eq_true_iff, decide_eq_true_iff]; omega
            by_cases h : (c : Int) ∈ ks
            · rw [if_pos h]
              refine (bits_or hbase (bits_one (j + 1))).congr fun o => ?_
              show ((decide (1 ≤ o ∧ o ≤ j) && (A.ws o).any _) || decide (j + 1 = o)) = (decide (1 ≤ o ∧ o ≤ j + 1) && (A.ws o).any _)
              by_cases e2 : o = j + 1
              · subst e2
                rw [hany, decide_eq_true h]
                simp
              · rw [other o e2, (decide_eq_false (fun e => e2 e.symm) : decide (j + 1 = o) = false), Bool.or_false]
            · rw [if_neg h]
              refine hbase.congr fun o => ?_
              show (decide (1 ≤ o ∧ o ≤ j) && (A.ws o).any _) = (decide (1 ≤ o ∧ o ≤ j + 1) && (A.ws o).any _)
              by_cases e2 : o = j + 1
              · subst e2
                rw [hany, decide_eq_false h]
                simp
              · rw [other o e2]
        · have s17 : Sm (fun b => b ∈ Y.all) H10 H17 := (s15.ex e16).trans (s.mono fun b hb => by rw [hb]; simp [BLay.all])
          intro b o hb nb
          have bd : b ≠ d := ne_of_none hb nd
          rw [upd_ne bd]
          exact sm b o (s17 b o (e010 _ _ hb) nb) fun q => q.elim (fun q => nb (by rw [q]; simp [BLay.all])) bd
  · obtain ⟨oc, od, dV, kV, doc, pm, an, cdv, ct, osl, rfl, lk, hcd, hD, hK⟩ := F.ex
    rcases hD with ⟨_, rfl⟩ | ⟨e, _⟩
    · refine ⟨fun s us ws X l1 l2 => ?_, fun r1 r2 => r1.append r2⟩
      match us, l1, ws, l2 with
      | [u1, u2], _, [w1, w2, w3], _ => exact .of_eq rfl
    · exact absurd rfl e
end
end K27
set_option Elab.async false
set_option linter.all false
set_option maxRecDepth 100000
set_option maxHeartbeats 1000000
/-! K27B7: the book of a model. -/
namespace K27
open PySem PySem.Spec PyProof.Rows L2 Evl
local macro_rules | `(tactic| walk_at "rd") => `(tactic| repeat (first | refine ⟨_, _, rfl, rfl, ?_⟩ | refine ⟨_, rfl, ?_⟩ | refine ⟨_, _, _, _, rfl, rfl, SqL.of (by assumption), rfl, ?_⟩ | refine Or.inl ⟨_, rfl, ?_⟩ | refine ⟨Or.inl (by decide), ?_⟩ | refine ⟨(by decide : _ ≠ _), ?_⟩))
theorem pe_mp {X : Cx} {w : World} {K : PySem.W.Frag} {mg : Str → Option Value} {base : Heap} {pos apos : Pos} {e o : Expr} {es : List Expr} {kws : List Keyword} {ta : TE} {t tk : TA} {E : XK} (T : Txt K mg) (hr : Room 3 X.A) (hx : Passes CX0 X E) (ho : PE X o ta) (ha : PA X (e :: es) t) (hkw : PK X kws tk) {pl : Sem Bool}
    (hall : (backToKw pos (keywordEach kws X.env)).all (·.1.isSome) = true := by rfl) (hks : (backToKw pos (keywordEach kws X.env)).filterMap (·.1) = (["requires", "conflicts", "size"] : List Str) := by rfl)
    (hst : starEach (e :: es) X.env = (false, eval e X.env) :: starEach es X.env := by rfl)
    (hpl : ((backTo pos (starEach (e :: es) X.env)).any (·.1) || (backToKw pos (keywordEach kws X.env)).any (·.1.isNone)) = false := by rfl)
    (ht : eval (.Call (.Attribute o "make_patch" apos) (e :: es) kws pos) X.env = (do
      let ov ← eval o X.env
      standAt apos.atName
      let (f, first) ← holding [ov] (getMethod ov "make_patch" pl)
      callWith pos f first (backTo pos (starEach (e :: es) X.env)) (backToKw pos (keywordEach kws X.env))) := by rfl)
    (hE : X.prog = PP ∧ X.w = w ∧ X.K = K ∧ X.mg = mg ∧ X.base = base := by exact ⟨rfl, rfl, rfl, rfl, rfl⟩) :
    PE X (.Call (.Attribute o "make_patch" apos) (e :: es) kws pos) (tMethN (He.ga K "Book") "make_patch" 2 3 (spMake K) (fun vs zs => vs ++ zs) E ta t tk) := by
  obtain ⟨h1, rfl, rfl, rfl, rfl⟩ := hE
  obtain ⟨fd, F, hb⟩ := ok_Bmake_patch (w := X.w) (base := X.base) T
  rw [← h1] at F
  exact pe_methN ho T.cl T.me_make_patch F hr hb hx ha hkw hall hks hst hpl ht
theorem mk_go {σ : L2.St} {H : Hp} {C : Addr} {sp : Sp} {E : XK} {t : TA} {Q : VK} (h : t σ H fun vs H1 => ∀ x dx, H1 x = none → H1 dx = none → dx ≠ x → sp (.ref x :: (vs ++ [])) (upd (upd H1 dx (.own x)) x (.ins C dx [])) (fun v H2 => v = .non ∧ Q (.ref x) H2) E) : tMake C sp [] E t σ H Q := h
theorem nil_go {σ : L2.St} {H : Hp} {Q : List V → Hp → Prop} (h : Q [] H) : tNil σ H Q := h
theorem methN_go {σ : L2.St} {H : Hp} {C : Addr} {m : Str} {n j : Nat} {sp : Sp} {gV : List V → List V → List V} {E : XK} {ta : TE} {t tk : TA} {D : Ends} (h : ta σ H fun x H1 => ∃ a dx fs, x = .ref a ∧ H1 a = some (.ins C dx fs) ∧ fs.lookup m = none ∧
  t σ H1 fun vs H2 => tk σ H2 fun zs H3 => vs.length + 1 = n ∧ zs.length = j ∧ sp (gV (x :: vs) zs) H3 (fun _ H4 => D.nx σ H4) E) : tDrop (tMethN C m n j sp gV E ta t tk) D σ H := h
theorem eu_tup1 {K : PySem.W.Frag} {σ : L2.St} {H : Hp} {te : TE} {p : Addr} {xs : List V} (h : Ev te σ H (.ref p)) (hx : SqL K H p xs) : EvU (tCB (rTupOf K) (tCons te tNil)) σ H xs := fun H1 e Q q =>
  h H1 e _ fun H2 e2 => ⟨p, xs, rfl, .inl ⟨ex_l (e.trans e2) hx, fun l hl => q l _ (fresh_back e2 hl) (e2.trans (Ex.new hl)) upd_same⟩⟩
section
variable {w : World} {K : PySem.W.Frag} {mg : Str → Option Value} {base : Heap}
theorem sc_l_book : FnScope ["_law_model_here", "_law_book_here", "_law_number"] ["_law_model_here"] (defScope s_l_book) := ⟨rfl, rfl, rfl, by decide +kernel, rfl, by decide +kernel, by decide +kernel⟩
def spBook (K : PySem.W.Frag) : Sp := fun vs H Q _ => ∃ (L : Lay) (A : Ab), vs = [.ref L.m] ∧ Md H L A ∧ Good A ∧ ∀ Y H', BkE K H' Y A A.n → (∀ b ∈ Y.all, H b = none) → Ex H H' → Q (.ref Y.p) H'
theorem ok_l_book (T : Txt K mg) : OkC PP w K mg base CX0 4 ("_law_book", none) ["_law_model_here"] (spBook K) :=
  ok0 T.F_l_book sc_l_book (fun _ _ _ _ _ _ us hl => match us, hl with | [_], _ => rfl) (by rintro vs H Q E ⟨L, A, rfl, _⟩; rfl) fun f cdv A0 outer s0 H vs Q E hr h => by
    obtain ⟨L, A, rfl, hM, hG, k⟩ := h
    refine ⟨_, (pss_cons (ps_set (i := 1) sc_l_book.nd rfl (Or.inl rfl) (pe_mk T (ok_Binit T) (hr.mono (by decide)) pass0 (pa_cons (pe_callTy (call_listK (K := K)) (by rfl) T.z_list (by decide +kernel) (pa_cons (pe_ix (ix_listK (K := K)) (pv 0) pe_int (fun _ _ => rfl)) pa_nil)) pa_nil))) (pss_cons (ps_for PassesOwn.never rfl (pi_range2 (by rfl) T.z_range (pa_cons pe_int (pa_cons (pe_callB (call_lenK (K := K)) (by rfl) T.z_len (by decide +kernel) (pa_cons (pe_ix (ix_listK (K := K)) (pv 0) pe_int (fun _ _ => rfl)) pa_nil)) pa_nil))) (pg_name (i := 2) sc_l_book.nd rfl (Or.inl rfl)) (pss_one (ps_expr (pe_mp T (hr.mono (by decide)) pass0 (pv 1) (pa_cons (pe_callTy (call_listK (K := K)) (by rfl) T.z_list (by decide +kernel) (pa_cons (pe_ix (ix_listK (K := K)) (pe_ix (ix_listK (K := K)) (pv 0) pe_int (fun _ _ => rfl)) (pv 2) (fun _ _ => rfl)) pa_nil)) pa_nil) (pk_cons (pe_callTy (call_tupK (K := K)) (by rfl) T.z_tuple (by decide +kernel) (pa_cons (pe_ix (ix_listK (K := K)) (pe_ix (ix_listK (K := K)) (pv 0) pe_int (fun _ _ => rfl)) (pv 2) (fun _ _ => rfl)) pa_nil)) (pk_cons (pe_callTy (call_tupK (K := K)) (by rfl) T.z_tuple (by decide +kernel) (pa_cons (pe_ix (ix_listK (K := K)) (pe_ix (ix_listK (K := K)) (pv 0) pe_int (fun _ _ => rfl)) (pv 2) (fun _ _ => rfl)) pa_nil)) (pk_cons (pe_ix (ix_listK (K := K)) (pe_ix (ix_listK (K := K)) (pv 0) pe_int (fun _ _ => rfl)) (pv 2) (fun _ _ => rfl)) pk_nil))))))) (pss_one (ps_ret (pv 1))))), ?_⟩
    have hnm := hM.nmax
    obtain ⟨xs, hxs, hxl⟩ := hM.base
    refine q_do (mk_go (cons_go (el_list (ev_row (i := 0) hM (ev_var rfl) (by omega)) (SqL.of hxs) H (Ex.refl _) _ fun bs H1 nbs e1 hbs => ?_)))
    intro x dx nx ndx ne
    have hbx : bs ≠ x := ne_of_none hbs nx
    have hbd : bs ≠ dx := ne_of_none hbs ndx
    refine ⟨x, dx, bs, xs, rfl, upd_same, by rw [upd_ne hbx, upd_ne hbd]; exact hbs, by rw [hxl]; exact hM.c1, by rw [hxl]; exact hM.c2, ?_⟩
    intro Y H2 hY hBk hfr s2
    have hB0 := hBk A hG (by rw [hxl]) hnm
    have e02 : Ex H H2 := fun b o hb => by
      have hb1 := e1 b o hb
      have n1 : b ≠ x := ne_of_none hb1 nx
      have n2 : b ≠ dx := ne_of_none hb1 ndx
      exact s2 b o (by rw [upd_ne n1, upd_ne n2]; exact hb1) n1
    have hY0 : ∀ b ∈ Y.all, H b = none := fun b hb => by
      rcases hfr b hb with h | h
      · subst h; exact fresh_back e1 nx
      · have n1 : b ≠ x := fun e => by rw [e, upd_same] at h; cases h
        rw [upd_ne n1] at h
        by_cases e : b = dx
        · subst e; exact fresh_back e1 ndx
        · rw [upd_ne e] at h; exact fresh_back e1 h
    refine ⟨rfl, ?_⟩
    have hM2 := hM.ex e02
    show tSeq _ _ _ _ H2
    refine q_forR2 (lo := 1) (n := (A.n : Int) + 1) (ea_cons ev_c (ea_cons (ev_len1 hM2 (ev_var rfl)) ea_nil)) ⟨by omega, by omega, by omega, by omega⟩
      (fun i σ H' => ∃ y, σ = [some (.ref L.m), some (.ref x), y] ∧ Ex H H' ∧ BkE K H' Y A i) (fun H3 e3 => ⟨_, rfl, e02.trans e3, by
        obtain ⟨fN, fB, fW, hB⟩ := hB0
        exact ⟨fN, fB, fW, hB.ex e3⟩⟩) (fun i σ H' hi => ?_) (fun σ H' => ?_)
    · rintro ⟨y, rfl, e, hB⟩
      have ec : (1 : Int) + (i : Int) = ((i + 1 : Nat) : Int) := by omega
      rw [ec]
      have hi1 : i + 1 ≤ A.n := by omega
      have hM' := hM.ex e
      obtain ⟨ts, hts, hT, _⟩ := hM'.i1 (i + 1) hi1
      have hB' := hB
      obtain ⟨fN, fB, fW, hBk⟩ := hB'
      have hp := hBk.p
      rw [hY] at hp
      refine methN_go ⟨_, rfl, x, _, _, rfl, hp, rfl, ?_⟩
      have hrow : ∀ {Hc : Hp} {ii : Nat}, Md Hc L A → five ii → Ev (tOp (rIxL K) (tOp (rIxL K) (tVar 0) (tC (.int (ii : Int)))) (tVar 2)) [some (.ref L.m), some (.ref x), some (.int ((i + 1 : Nat) : Int))] Hc (.ref (L.a ii (i + 1))) := fun hMc hii => ev_inn hMc hii (ev_var rfl) (ev_var rfl) hi1
      refine cons_go (el_list (hrow (ii := 1) hM' five1) (SqL.of hts) H' (Ex.refl _) _ fun wl H3 nwl e3 hwl => ?_)
      refine nil_go ?_
      have hM3 := hM'.ex e3
      have h5 := hM3.i5 (i + 1) hi1
      have h6 := hM3.i6 (i + 1) hi1
      refine cons_go (eu_tup1 (hrow (ii := 5) hM3 five5) (SqL.of h5) H3 (Ex.refl _) _ fun rl H4 nrl e4 hrl => ?_)
      have hM4 := hM3.ex e4
      refine cons_go (eu_tup1 (hrow (ii := 6) hM4 five6) (SqL.of (e4 _ _ h6)) H4 (Ex.refl _) _ fun cl H5 ncl e5 hcl => ?_)
      have hM5 := hM4.ex e5
      have hsz : Ev (tOp (rIxL K) (tOp (rIxL K) (tVar 0) (tC (.int 2))) (tVar 2)) [some (.ref L.m), some (.ref x), some (.int ((i + 1 : Nat) : Int))] H5 (.int (A.sz (i + 1))) := ev_op (ev_row (i := 2) hM5 (ev_var rfl) (by omega)) (ev_var rfl) (rv_ixL (SqL.of hM5.o2) (at_map (fun k => V.int (A.sz k)) (by omega)))
      refine cons_go (hsz H5 (Ex.refl _) _ fun H6 e6 => ?_)
      have e46 := (e4.trans e5).trans e6
      have e36 := e3.trans e46
      refine ⟨rfl, rfl, Y, A, i, wl, rl, cl, ts, by rw [hY]; rfl, ⟨fN, fB, fW, hBk.ex e36⟩, hG, hi1, SqL.of (e46 _ _ hwl), hT.ex e36, SqT.of (e6 _ _ (e5 _ _ hrl)), SqT.of (e6 _ _ hcl), ?_⟩
      intro H7 hB7 s7
      refine ⟨_, rfl, fun b o hb => s7 b o (e36 _ _ (e _ _ hb)) (fun q => ?_), hB7⟩
      have := hY0 b q
      rw [this] at hb
      cases hb
    · rintro ⟨y, rfl, e, hB⟩
      rw [show ((A.n : Int) + 1 - 1).toNat = A.n by omega] at hB
      refine ⟨_, rfl, ?_⟩
      have := k Y H' hB hY0 e
      rw [hY] at this
      exact this
end
end K27
set_option Elab.async false
set_option linter.all false
set_option maxRecDepth 100000
set_option maxHeartbeats 1000000
/-! K27L1: no tree. -/
namespace K27
open PySem PySem.Spec PyProof.Rows L2 Evl
local macro_rules | `(tactic| walk_at "rd") => `(tactic| repeat (first | refine ⟨_, _, rfl, rfl, ?_⟩ | refine ⟨_, rfl, ?_⟩ | refine ⟨_, _, _, _, rfl, rfl, SqL.of (by assumption), rfl, ?_⟩ | refine Or.inl ⟨_, rfl, ?_⟩ | refine ⟨Or.inl (by decide), ?_⟩ | refine ⟨(by decide : _ ≠ _), ?_⟩))
theorem pair_ver {A : Ab} (G : Good A) {a b : Nat} (h : Indep A a b) : IsVer A (needB A [a, b]) := by
  have V := indep_ver G h
  have hS : ∀ x, needB A [a, b] x = true ↔ ((A.R b x || (A.R a x || decide (x = a))) = true ∨ x = b) := fun x => by
    rw [needB_iff]
    unfold NeedP
    simp only [List.mem_cons, List.mem_nil_iff, or_false, Bool.or_eq_true, decide_eq_true_iff]
    constructor
    · rintro ((h | h) | ⟨d, h | h, hr⟩)
      · exact .inl (.inr (.inr h))
      · exact .inr h
      · subst h; exact .inl (.inr (.inl hr))
      · subst h; exact .inl (.inl hr)
    · rintro ((h | h | h) | h)
      · exact .inr ⟨b, .inr rfl, h⟩
      · exact .inr ⟨a, .inl rfl, h⟩
      · exact .inl (.inl h)
      · exact .inl (.inr h)
  have nb : ∀ x, (A.R b x || (A.R a x || decide (x = a))) = true → A.B b x = false := fun x hx => by
    cases q : A.B b x with
    | false => rfl
    | true => rw [indep_fits G h x q] at hx; cases hx
  refine ⟨fun k o hk ho => (hS o).mpr (.inl ?_), fun k o hk ho => ?_⟩
  · rcases (hS k).mp hk with h1 | h1
    · exact V.clo k o h1 ho
    · subst h1
      rw [ho]; rfl
  · rcases (hS k).mp hk with h1 | h1
    · rcases (hS o).mp ho with h2 | h2
      · exact V.cf k o h1 h2
      · subst h2
        rw [G.sym]
        exact nb k h1
    · subst h1
      rcases (hS o).mp ho with h2 | h2
      · exact nb o h2
      · subst h2
        exact G.irr _
section
variable {w : World} {K : PySem.W.Frag} {mg : Str → Option Value} {base : Heap}
theorem BkE.ex {H H' : Hp} {Y : BLay} {A : Ab} {j : Nat} (h : BkE K H Y A j) (e : Ex H H') : BkE K H' Y A j := by
  obtain ⟨fN, fB, fW, hB⟩ := h
  exact ⟨fN, fB, fW, hB.ex e⟩
theorem BkE.sm {U : Addr → Prop} {H H' : Hp} {Y : BLay} {A : Ab} {j : Nat} (h : BkE K H Y A j) (e : Sm U H H') (hu : ∀ b ∈ Y.all, ¬ U b) : BkE K H' Y A j := by
  obtain ⟨fN, fB, fW, hB⟩ := h
  exact ⟨fN, fB, fW, hB.sm e hu⟩
/-- tuple(e, due): e a new tuple | a name's -/
theorem ev_tupleU {σ : L2.St} {H : Hp} {te tf : TE} {E : XK} {pa : Addr} {l : List Int} (h : EvU te σ H (l.map V.int)) (h2 : Ev tf σ H (.ref pa)) (hp : H pa = some (.tup (l.map V.int))) (hz : l.length ≤ 1000) : Ev (tCall (spTuple K) [] E (tCons te (tCons tf tNil))) σ H (.bl true) := fun H1 e Q q =>
  h H1 e _ fun p H2 np e2 hpp => h2 H2 (e.trans e2) _ fun H3 e3 => ⟨p, pa, l, rfl, e3 _ _ hpp, ((e.trans e2).trans e3) _ _ hp, hz, fun H4 e4 => q H4 ((e2.trans e3).trans e4)⟩
theorem ev_tupleE {σ : L2.St} {H : Hp} {te tf : TE} {E : XK} {pb pa : Addr} {l : List Int} (h : Ev te σ H (.ref pb)) (hb : H pb = some (.tup (l.map V.int))) (h2 : Ev tf σ H (.ref pa)) (hp : H pa = some (.tup (l.map V.int))) (hz : l.length ≤ 1000) : Ev (tCall (spTuple K) [] E (tCons te (tCons tf tNil))) σ H (.bl true) := fun H1 e Q q =>
  h H1 e _ fun H2 e2 => h2 H2 (e.trans e2) _ fun H3 e3 => ⟨pb, pa, l, rfl, ((e.trans e2).trans e3) _ _ hb, ((e.trans e2).trans e3) _ _ hp, hz, fun H4 e4 => q H4 ((e2.trans e3).trans e4)⟩
theorem eu_indep {σ : L2.St} {H : Hp} {te : TE} {E : XK} {Y : BLay} {A : Ab} {q : Nat × Nat} (hG : Good A) (hB : BkE K H Y A A.n) (hL : LeastP A A.n (some q)) (h : Ev te σ H (.ref Y.p)) : EvU (tCall (spIndep K) [] E (tCons te tNil)) σ H (nv [q.1, q.2]) :=
  eu_call (ea_cons h ea_nil) fun H1 e1 Q kk => ⟨Y, A, rfl, hB.ex e1, hG, fun o hL' => ⟨(fun ho => by subst ho; cases LeastP.uniq hL' hL), (fun q' ho => by subst ho; cases LeastP.uniq hL' hL; exact fun p H2 np e2 hp => kk p H2 np e2 hp)⟩⟩
theorem sc_l_is_no_tree : FnScope ["_law_book_here", "_law_model_here", "_law_pair_here", "_law_union", "_law_number", "_law_told_here"] ["_law_book_here", "_law_model_here", "_law_pair_here"] (defScope s_l_is_no_tree) := ⟨rfl, rfl, rfl, by decide +kernel, rfl, by decide +kernel, by decide +kernel⟩
def spNoTree (K : PySem.W.Frag) : Sp := fun vs H Q _ => ∃ (Y : BLay) (L : Lay) (A : Ab) (q : Nat × Nat) (pa : Addr), vs = [.ref Y.p, .ref L.m, .ref pa] ∧ BkE K H Y A A.n ∧ Md H L A ∧ Good A ∧ LeastP A A.n (some q) ∧ H pa = some (.tup (nv [q.1, q.2])) ∧ RetV (.bl true) H Q
theorem ok_l_is_no_tree (T : Txt K mg) : OkC PP w K mg base CX0 7 ("_law_is_no_tree", none) ["_law_book_here", "_law_model_here", "_law_pair_here"] (spNoTree K) :=
  ok0 T.F_l_is_no_tree sc_l_is_no_tree (fun _ _ _ _ _ _ us hl => match us, hl with | [_, _, _], _ => rfl) (by rintro vs H Q E ⟨Y, L, A, q, pa, rfl, _⟩; rfl) fun f cdv A0 outer s0 H vs Q E hr h => by
    obtain ⟨Y, L, A, q, pa, rfl, hB, hM, hG, hL, hpa, k⟩ := h
    refine ⟨_, (pss_cons (ps_if (pt_not (pt_val (pe_c (ok_l_tuple T) (hr.mono (by decide)) T.g_l_tuple pass0 (pa_cons (pe_c (ok_independent_pair T) (hr.mono (by decide)) T.g_independent_pair pass0 (pa_cons (pv 0) pa_nil)) (pa_cons (pv 2) pa_nil))))) (pss_one (ps_ret pe_bl)) pss_nil) (pss_cons (ps_set (i := 3) sc_l_is_no_tree.nd rfl (Or.inl rfl) (pe_callTy (call_tupK (K := K)) (by rfl) T.z_tuple (by decide +kernel) (pa_cons (pe_c (ok_l_needsT T) (hr.mono (by decide)) T.g_l_needs pass0 (pa_cons (pv 1) (pa_cons (pv 2) pa_nil))) pa_nil))) (pss_cons (ps_if (PW.pt (pw_or (pt_not (pt_val (pe_c (ok_l_is_version T) (hr.mono (by decide)) T.g_l_is_version pass0 (pa_cons (pv 1) (pa_cons (pv 3) pa_nil))))) (pw_or1 (pt_cmpR (op_notInB T (ok_Bcontains T) (hr.mono (by decide)) spHolds_in) (pv 3) (pv 0) (by rfl))))) (pss_one (ps_ret pe_bl)) pss_nil) (pss_cons (ps_for PassesOwn.never rfl (pi_range1 (by rfl) T.z_range (pa_cons (pe_callB (call_lenK (K := K)) (by rfl) T.z_len (by decide +kernel) (pa_cons (pe_ix (ix_listK (K := K)) (pv 1) pe_int (fun _ _ => rfl)) pa_nil)) pa_nil)) (pg_name (i := 4) sc_l_is_no_tree.nd rfl (Or.inl rfl)) (pss_cons (ps_set (i := 5) sc_l_is_no_tree.nd rfl (Or.inl rfl) (pe_c (ok_l_told T) (hr.mono (by decide)) T.g_l_told pass0 (pa_cons (pv 0) (pa_cons (pe_callB (call_min2 rfl) (by rfl) T.z_min (by decide +kernel) (pa_cons pe_int (pa_cons (pv 4) pa_nil))) (pa_cons (pv 4) pa_nil))))) (pss_one (ps_if (PW.pt (pw_or (pt_cmpR op_ne (pe_ix (ix_listK (K := K)) (pv 5) pe_int (fun _ _ => rfl)) pe_int (nomark _)) (pw_or1 (pt_not (pt_val (pe_c (ok_l_tuple T) (hr.mono (by decide)) T.g_l_tuple pass0 (pa_cons (pe_ix (ix_listK (K := K)) (pv 5) pe_int (fun _ _ => rfl)) (pa_cons (pv 2) pa_nil)))))))) (pss_one (ps_ret pe_bl)) pss_nil)))) (pss_one (ps_ret (pe_c (ok_l_tuple T) (hr.mono (by decide)) T.g_l_tuple pass0 (pa_cons (pe_c (ok_independent_pair T) (hr.mono (by decide)) T.g_independent_pair pass0 (pa_cons (pv 0) pa_nil)) (pa_cons (pv 2) pa_nil))))))))), ?_⟩
    have hpa' := hpa
    rw [nv_int] at hpa'
    have hnm := hM.nmax
    have hq := hL.1
    refine q_when (b := false) (et_not (a := true) (et_B (ev_tupleU (by rw [← nv_int]; exact eu_indep hG hB hL (ev_var rfl)) (ev_var rfl) hpa' (by show 2 ≤ 1000; decide)))) (fun h => by cases h) (fun _ H1 e1 => ?_)
    refine q_asgU (xs := nv (asc A.n (needB A [q.1, q.2]))) (eu_tupOf (el_call (ea_cons (ev_var rfl) (ea_cons (ev_var rfl) ea_nil)) fun H2 e2 Q2 q2 E2 => ⟨L, A, pa, [q.1, q.2], rfl, hM.ex (e1.trans e2), hG, SqT.of (e2 _ _ (e1 _ _ hpa)), by show 2 ≤ 1000; decide, fun x hx => by
      have h1 := hq.1; have h2 := hq.2.1; have h3 := hq.2.2.1
      rcases List.mem_cons.mp hx with rfl | hx
      · exact ⟨h1, by omega⟩
      · have : x = q.2 := by simpa using hx
        omega, fun p H3 np e3 hp => q2 p H3 np e3 hp⟩)) fun u H2 nu e2 hu => ?_
    have e02 := e1.trans e2
    have hV := pair_ver hG hq
    refine q_when (b := false) (et_is (et_or (a := false) (b := false) (et_not (a := true) (et_B (ev_call (ea_cons (ev_var rfl) (ea_cons (ev_var rfl) ea_nil)) fun H3 e3 Q3 q3 E3 => ⟨L, A, u, needB A [q.1, q.2], rfl, hM.ex (e02.trans e3), hG, e3 _ _ hu, hV, fun H4 e4 => q3 H4 e4⟩))) fun _ => et_test (fun H3 e3 Q3 q3 => ⟨_, rfl, _, rfl, Y.p, rfl, Y, A, u, needB A [q.1, q.2], rfl, hB.ex (e02.trans e3), hG, e3 _ _ hu, hV, fun H4 e4 => ⟨true, rfl, q3 H4 e4⟩⟩)) rfl) (fun h => by cases h) (fun _ H3 e3 => ?_)
    have e03 := e02.trans e3
    refine q_forR1 (n := (A.n : Int) + 1) (ea_cons (ev_len1 (hM.ex e03) (ev_var rfl)) ea_nil) ⟨by omega, by omega⟩ (fun i σ H' => ∃ x y, σ = [some (.ref Y.p), some (.ref L.m), some (.ref pa), some (.ref u), x, y] ∧ Ex H H') (fun H4 e4 => ⟨_, _, rfl, e03.trans e4⟩) (fun i σ H' hi => ?_) (fun σ H' => ?_)
    · rintro ⟨x, y, rfl, e⟩
      have hpaH := e _ _ hpa
      refine q_do ⟨_, rfl, ?_⟩
      refine cons_go ⟨_, rfl, _, _, rfl, ?_⟩
      refine cons_go ⟨_, rfl, ?_⟩
      refine ⟨Y, A, if i = 0 then 0 else 1, (i : Int), ?_, hB.ex e, hG, .inr ⟨?_, some q, hL, fun q' hq' => ?_, fun h => by cases h⟩⟩
      · show [V.ref Y.p, V.int (if (i : Int) < 1 then (i : Int) else 1), V.int (i : Int)] = _
        by_cases h : i = 0
        · subst h; rfl
        · have h2 : ¬ ((i : Int) < 1) := by omega
          rw [if_neg h2, if_neg h]; rfl
      · by_cases h : i = 0
        · rw [if_pos h]; exact .inl rfl
        · exact .inr ⟨by omega, by omega⟩
      · cases hq'
        intro p t H4 np e4 hp ht
        refine s_when (b := false) (et_is (et_or (a := false) (b := false) (et_test (ev_is (ev_op (ev_op (ev_var rfl) ev_c (rv_ixL (SqL.of hp) rfl)) ev_c (rv_ne rfl)) rfl)) fun _ => et_not (a := true) (et_B (ev_tupleE (ev_op (ev_var rfl) ev_c (rv_ixL (SqL.of hp) rfl)) ht (ev_var rfl) (by have := e4 _ _ hpaH; rw [nv_int] at this; exact this) (by show 2 ≤ 1000; decide)))) rfl) (fun h => by cases h) (fun _ H5 e5 => ⟨_, _, rfl, (e.trans e4).trans e5⟩)
    · rintro ⟨x, y, rfl, e⟩
      refine s_ret (ev_tupleU (by rw [← nv_int]; exact eu_indep hG (hB.ex e) hL (ev_var rfl)) (ev_var rfl) (e _ _ hpa') (by show 2 ≤ 1000; decide)) fun H5 e5 => k _ (e.trans e5)
end
end K27
set_option Elab.async false
set_option linter.all false
set_option maxRecDepth 100000
set_option maxHeartbeats 1000000
/-! K27L2: a tree. -/
namespace K27
open PySem PySem.Spec PyProof.Rows L2 Evl
local macro_rules | `(tactic| walk_at "rd") => `(tactic| repeat (first | refine ⟨_, _, rfl, rfl, ?_⟩ | refine ⟨_, rfl, ?_⟩ | refine ⟨_, _, _, _, rfl, rfl, SqL.of (by assumption), rfl, ?_⟩ | refine Or.inl ⟨_, rfl, ?_⟩ | refine ⟨Or.inl (by decide), ?_⟩ | refine ⟨(by decide : _ ≠ _), ?_⟩))
section
variable {w : World} {K : PySem.W.Frag} {mg : Str → Option Value} {base : Heap}
theorem q_asgG {σ : L2.St} {H : Hp} {te : TE} {g : TG} {tz : TS} {D : Ends} (h : te σ H (fun v H1 => g v σ H1 fun σ' H' => tz D σ' H')) : tSeq (tAsg te g) tz D σ H := h
theorem tc_go {σ : L2.St} {H : Hp} {v : V} {Q : VK} (h : Q v H) : tC v σ H Q := h
theorem el_catNew {σ : L2.St} {H : Hp} {ta tb : TE} {a : Addr} {xs ys : List V} (ha : Ev ta σ H (.ref a)) (hx : H a = some (.lst xs)) (hb : EvL tb σ H ys) (hz : xs.length + ys.length ≤ 1000) : EvL (tOp rCat ta tb) σ H (xs ++ ys) := fun H1 e Q q =>
  ha H1 e _ fun H2 e2 => hb H2 (e.trans e2) _ fun p H3 np e3 hp => ⟨a, p, xs, ys, rfl, rfl, ((e.trans e2).trans e3) _ _ hx, hp, sz_of (by omega), fun l hl => q l _ (fresh_back (e2.trans e3) hl) ((e2.trans e3).trans (Ex.new hl)) upd_same⟩
theorem el_catNew2 {σ : L2.St} {H : Hp} {ta tb : TE} {b : Addr} {xs ys : List V} (ha : EvL ta σ H xs) (hb : Ev tb σ H (.ref b)) (hy : H b = some (.lst ys)) (hz : xs.length + ys.length ≤ 1000) : EvL (tOp rCat ta tb) σ H (xs ++ ys) := fun H1 e Q q =>
  ha H1 e _ fun p H2 np e2 hp => hb H2 (e.trans e2) _ fun H3 e3 => ⟨p, b, xs, ys, rfl, rfl, e3 _ _ hp, ((e.trans e2).trans e3) _ _ hy, sz_of (by omega), fun l hl => q l _ (fresh_back (e2.trans e3) hl) ((e2.trans e3).trans (Ex.new hl)) upd_same⟩
/-- max of a new list -/
theorem ev_maxL {σ : L2.St} {H : Hp} {te : TE} {l : List Nat} {m : Nat} (h : EvL te σ H (nv l)) (hm : m ∈ l) (hle : ∀ x ∈ l, x ≤ m) : Ev (tCB (rMax K) (tCons te tNil)) σ H (.int (m : Int)) := fun H1 e Q q =>
  h H1 e _ fun p H2 np e2 hp => ⟨p, l.map fun (n : Nat) => (n : Int), rfl, SqL.of (by rw [hp, nv_int]), by rw [List.length_map]; exact List.length_pos_of_mem hm, fun m' h1 h2 => by
    have e' : m' = (m : Int) := by
      obtain ⟨x, hx, rfl⟩ := List.mem_map.mp h1
      have a1 := h2 (m : Int) (List.mem_map.mpr ⟨m, hm, rfl⟩)
      have a2 := hle x hx
      omega
    subst e'
    exact q H2 e2⟩
theorem lastOr_max {A : Ab} (k : Nat) : lastOr (asc A.n (A.R k)) ∈ 0 :: asc A.n (A.R k) ∧ ∀ x ∈ 0 :: asc A.n (A.R k), x ≤ lastOr (asc A.n (A.R k)) := by
  have hs := asc_sorted A.n (A.R k)
  rcases List.eq_nil_or_concat (asc A.n (A.R k)) with h0 | ⟨pre, m, h0⟩
  · rw [h0]
    exact ⟨.head _, fun x hx => by
      have : x = 0 := by simpa using hx
      rw [this]; exact Nat.zero_le _⟩
  · rw [List.concat_eq_append] at h0
    rw [h0, lastOr_snoc]
    rw [h0] at hs
    refine ⟨by simp, fun x hx => ?_⟩
    rcases List.mem_cons.mp hx with rfl | hx
    · exact Nat.zero_le _
    · rcases List.mem_append.mp hx with h | h
      · exact Nat.le_of_lt ((List.pairwise_append.mp hs).2.2 x h m (by simp))
      · have : x = m := by simpa using h
        omega
theorem sc_l_is_tree : FnScope ["_law_book_here", "_law_model_here", "_law_number", "_law_due", "_law_turn", "_law_told_here", "_law_seen", "_law_ups"] ["_law_book_here", "_law_model_here"] (defScope s_l_is_tree) := ⟨rfl, rfl, rfl, by decide +kernel, rfl, by decide +kernel, by decide +kernel⟩
def spIsTree (K : PySem.W.Frag) : Sp := fun vs H Q _ => ∃ (Y : BLay) (L : Lay) (A : Ab), vs = [.ref Y.p, .ref L.m] ∧ BkE K H Y A A.n ∧ Md H L A ∧ Good A ∧ Tree A ∧ RetV (.bl true) H Q
theorem ok_l_is_tree (T : Txt K mg) : OkC PP w K mg base CX0 7 ("_law_is_tree", none) ["_law_book_here", "_law_model_here"] (spIsTree K) :=
  ok0 T.F_l_is_tree sc_l_is_tree (fun _ _ _ _ _ _ us hl => match us, hl with | [_, _], _ => rfl) (by rintro vs H Q E ⟨Y, L, A, rfl, _⟩; rfl) fun f cdv A0 outer s0 H vs Q E hr h => by
    obtain ⟨Y, L, A, rfl, hB, hM, hG, hTr, k⟩ := h
    refine ⟨_, (pss_cons (ps_set (i := 3) sc_l_is_tree.nd rfl (Or.inl rfl) (pe_op op_cat (pe_lst (pa_cons (pe_tup pa_nil) pa_nil)) (pe_lc (own := [("_law_number", 2)]) (g := gName 2) (by rfl) sc_l_is_tree.nd (pi_range2 (by rfl) T.z_range (pa_cons pe_int (pa_cons (pe_callB (call_lenK (K := K)) (by rfl) T.z_len (by decide +kernel) (pa_cons (pe_ix (ix_listK (K := K)) (pv 1) pe_int (fun _ _ => rfl)) pa_nil)) pa_nil))) (blkOk_by (by rfl)) (fun _ _ _ _ _ => pg_name (i := 2) sc_l_is_tree.nd rfl (by first | exact Or.inl rfl | exact Or.inr rfl)) (fun _ _ _ _ _ => pts_nil) (fun _ _ _ _ _ => (pe_callTy (call_tupK (K := K)) (by rfl) T.z_tuple (by decide +kernel) (pa_cons (pe_op op_cat (pe_ix (ix_listK (K := K)) (pe_ix (ix_listK (K := K)) (pv 1) pe_int (fun _ _ => rfl)) (pv 2) (fun _ _ => rfl)) (pe_lst (pa_cons (pv 2) pa_nil))) pa_nil)))))) (pss_cons (ps_if (PW.pt (pw_or (pt_cmpR op_notN (pe_c (ok_independent_pair T) (hr.mono (by decide)) T.g_independent_pair pass0 (pa_cons (pv 0) pa_nil)) pe_non (nomark _)) (pw_or1 (pt_cmpR (op_neK (K := K) hr.units) (pe_callB (call_sortZ hr.units) (by rfl) T.z_sorted (by decide +kernel) (pa_cons (pv 3) pa_nil)) (pe_callB (call_sortZ hr.units) (by rfl) T.z_sorted (by decide +kernel) (pa_cons (pe_c (ok_l_all T) (hr.mono (by decide)) T.g_l_all pass0 (pa_cons (pv 1) pa_nil)) pa_nil)) (nomark _))))) (pss_one (ps_ret pe_bl)) pss_nil) (pss_cons (ps_for PassesOwn.never rfl (pi_range1 (by rfl) T.z_range (pa_cons pe_int pa_nil)) (pg_name (i := 4) sc_l_is_tree.nd rfl (Or.inl rfl)) (pss_cons (ps_set (i := 5) sc_l_is_tree.nd rfl (Or.inl rfl) (pe_c (ok_l_told T) (hr.mono (by decide)) T.g_l_told pass0 (pa_cons (pv 0) (pa_cons pe_int (pa_cons pe_int pa_nil))))) (pss_cons (ps_if (PW.pt (pw_or (pt_cmpR op_ne (pe_ix (ix_listK (K := K)) (pv 5) pe_int (fun _ _ => rfl)) pe_int (nomark _)) (pw_or1 (pt_not (pt_val (pe_c (ok_l_list_of T) (hr.mono (by decide)) T.g_l_list_of pass0 (pa_cons (pe_ix (ix_listK (K := K)) (pv 5) pe_int (fun _ _ => rfl)) (pa_cons (pv 3) pa_nil)))))))) (pss_one (ps_ret pe_bl)) pss_nil) (pss_cons (ps_set (i := 6) sc_l_is_tree.nd rfl (Or.inl rfl) (pe_ix (ix_listK (K := K)) (pv 5) pe_int (fun _ _ => rfl))) (pss_cons (ps_asg (pe_tup (pa_cons pe_int (pa_cons pe_int pa_nil))) (pg_sub (pv 6) pe_int set_list)) (pss_one (ps_expr (pe_appK (K := K) (pv 6) (pa_cons (pe_tup (pa_cons pe_int pa_nil)) pa_nil))))))))) (pss_cons (ps_set (i := 7) sc_l_is_tree.nd rfl (Or.inl rfl) (pe_lst (pa_cons pe_int pa_nil))) (pss_cons (ps_for PassesOwn.never rfl (pi_range2 (by rfl) T.z_range (pa_cons pe_int (pa_cons (pe_callB (call_lenK (K := K)) (by rfl) T.z_len (by decide +kernel) (pa_cons (pe_ix (ix_listK (K := K)) (pv 1) pe_int (fun _ _ => rfl)) pa_nil)) pa_nil))) (pg_name (i := 2) sc_l_is_tree.nd rfl (Or.inl rfl)) (pss_cons (ps_set (i := 5) sc_l_is_tree.nd rfl (Or.inl rfl) (pe_c (ok_l_told T) (hr.mono (by decide)) T.g_l_told pass0 (pa_cons (pv 0) (pa_cons pe_int (pa_cons (pv 2) pa_nil))))) (pss_cons (ps_if (PW.pt (pw_or (pt_cmpR op_ne (pe_ix (ix_listK (K := K)) (pv 5) pe_int (fun _ _ => rfl)) pe_int (nomark _)) (pw_or (pt_not (pt_val (pe_c (ok_l_integer T) (hr.mono (by decide)) T.g_l_integer pass0 (pa_cons (pe_ix (ix_listK (K := K)) (pv 5) pe_int (fun _ _ => rfl)) pa_nil)))) (pw_or1 (pt_cmpR (op_neK (K := K) hr.units) (pe_ix (ix_listK (K := K)) (pv 5) pe_int (fun _ _ => rfl)) (pe_callB (cr_maxK (K := K) rfl) (by rfl) T.z_max (by decide +kernel) (pa_cons (pe_op op_cat (pe_lst (pa_cons pe_int pa_nil)) (pe_ix (ix_listK (K := K)) (pe_ix (ix_listK (K := K)) (pv 1) pe_int (fun _ _ => rfl)) (pv 2) (fun _ _ => rfl))) pa_nil)) (nomark _)))))) (pss_one (ps_ret pe_bl)) pss_nil) (pss_one (ps_expr (pe_appK (K := K) (pv 7) (pa_cons (pe_ix (ix_listK (K := K)) (pv 5) pe_int (fun _ _ => rfl)) pa_nil))))))) (pss_one (ps_ret (pe_c (ok_l_chains T) (hr.mono (by decide)) T.g_l_chains pass0 (pa_cons (pv 1) (pa_cons (pv 7) pa_nil)))))))))), ?_⟩
    have hnm := hM.nmax
    have hLn : LeastP A A.n none := tree_none.mp hTr
    have hal : ∀ S, (asc A.n S).length ≤ 30 := fun S => by
      have := asc_len A.n S
      omega
    have hdl : (due A A.n).length = A.n + 1 := by simp [due]
    have ed : due A A.n = [[]] ++ (((List.range ((A.n : Int) + 1 - 1).toNat).filter fun _ => true).map fun i => asc A.n (A.R (i + 1)) ++ [i + 1]) := by
      have hm : ((List.range' 1 A.n).map fun j => asc A.n (A.R j) ++ [j]) = (List.range A.n).map fun i => asc A.n (A.R (i + 1)) ++ [i + 1] := by
        apply List.ext_getElem
        · simp
        · intro i h1 h2
          simp only [List.getElem_map, List.getElem_range', List.getElem_range]
          rw [show 1 + 1 * i = i + 1 by omega]
      unfold due
      rw [List.filter_eq_self.mpr (fun _ _ => rfl), show ((A.n : Int) + 1 - 1).toNat = A.n by omega, hm]
      rfl
    have hd1 : ∀ z ∈ due A A.n, z.length ≤ 1000 := fun z hz => by
      unfold due at hz
      rcases List.mem_cons.mp hz with rfl | hz
      · exact Nat.zero_le _
      · obtain ⟨j, _, rfl⟩ := List.mem_map.mp hz
        have := hal (A.R j)
        rw [List.length_append]
        show _ + 1 ≤ 1000
        omega
    refine q_asgZ (vs := due A A.n) ?_ fun du dps H1 ndu e1 hdu hdT => ?_
    · rw [ed]
      refine ez_cat ez_unit (ez_lcR2 (fun _ => true) (fun i => asc A.n (A.R (i + 1)) ++ [i + 1]) (ea_cons ev_c (ea_cons (ev_len1 hM (ev_var rfl)) ea_nil)) ⟨by omega, by omega, by omega, by omega⟩ (fun _ => rfl) (fun i hi => fun H2 _ Q q => q H2 (Ex.refl _)) (fun i hi _ => ?_)) (by
        rw [List.length_map, List.filter_eq_self.mpr (fun _ _ => rfl), List.length_range]
        show 1 + _ ≤ 50000
        omega)
      have ec : (1 : Int) + (i : Int) = ((i + 1 : Nat) : Int) := by omega
      rw [ec, nv_app]
      refine ew_eu (eu_tupOf (el_catNew (ev_inn hM five3 (ev_var rfl) (ev_var rfl) (by omega)) (hM.i3 (i + 1) (by omega)) (el_lst (ea_cons (ev_var rfl) ea_nil) (by show 1 ≤ 100000; decide)) ?_))
      rw [nv_len]
      have := hal (A.R (i + 1))
      show _ + 1 ≤ 1000
      omega
    have hVd : allV A A.n = due A A.n := allV_tree hG hTr A.n (Nat.le_refl _)
    have hB1 := hB.ex e1
    have hM1 := hM.ex e1
    have dcons : due A A.n = [] :: (due A A.n).tail := rfl
    have tst : EvT (tOr (tTest (tOp (fun x y H Q => y = .non ∧ Q (.bl (!decide (x = .non))) H) (tCall (spIndep K) [] E0 (tCons (tVar 0) tNil)) (tC .non))) (tTest (tOp (rNeD K) (tCB rSortZ (tCons (tVar 3) tNil)) (tCB rSortZ (tCons (tCall (spAll K) [] E0 (tCons (tVar 1) tNil)) tNil))))) [some (.ref Y.p), some (.ref L.m), none, some (.ref du), none, none, none, none] H1 false := by
      refine et_is (et_or (a := false) (b := false) (et_test fun H2 e2 Q2 q2 => ?_) fun _ => et_test fun H2 e2 Q2 q2 => ?_) rfl
      · exact ⟨_, rfl, Y, A, rfl, hB1.ex e2, hG, fun o hL => ⟨fun ho => fun H3 e3 => ⟨rfl, q2 H3 e3⟩, fun q ho => by subst ho; cases LeastP.uniq hL hLn⟩⟩
      · refine ⟨_, rfl, du, dps, (due A A.n).tail, rfl, e2 _ _ hdu, by rw [← dcons]; exact hdT.ex e2, fun s1 ps1 vs1 ns1 hT1 hp1 hs1 => ?_⟩
        have x1 := Ex.new (o := HO.lst (ps1.map V.ref)) ns1
        refine ⟨_, rfl, L, A, rfl, hM1.ex (e2.trans x1), by rw [hVd, hdl]; omega, fun al aps H3 nal e3 hal2 haT => ?_⟩
        rw [hVd] at haT
        refine ⟨al, aps, (due A A.n).tail, rfl, hal2, by rw [← dcons]; exact haT, fun s2 ps2 vs2 ns2 hT2 hp2 hs2 => ?_⟩
        have x2 := Ex.new (o := HO.lst (ps2.map V.ref)) ns2
        have ev : vs2 = vs1 := srtZ_uniq hs2 hs1 (hp2.trans hp1.symm)
        subst ev
        have hs1l : (upd H3 s2 (.lst (ps2.map V.ref))) s1 = some (.lst (ps1.map V.ref)) := x2 _ _ (e3 _ _ upd_same)
        have t1 : Tupz (upd H3 s2 (.lst (ps2.map V.ref))) ps1 vs2 := hT1.ex ((x1.trans e3).trans x2)
        have t2 : Tupz (upd H3 s2 (.lst (ps2.map V.ref))) ps2 vs2 := hT2.ex x2
        refine ⟨.list (zd vs2), .list (zd vs2), .lst (SqL.of hs1l) (dp_zd K t1), .lst (SqL.of upd_same) (dp_zd K t2), shaped_zd _, shaped_zd _, ?_⟩
        rw [SeqAt.eqv_refl _ (SeqAt.canLay_of_shaped (shaped_zd vs2))]
        exact q2 _ ((x1.trans e3).trans x2)
    refine q_when (b := false) tst (fun h => by cases h) (fun _ H2 e2 => ?_)
    have hM2 := hM1.ex e2
    have e02 := e1.trans e2
    have hdu2 := e2 _ _ hdu
    have hdT2 := hdT.ex e2
    refine q_forR1 (n := 2) (ea_cons ev_c ea_nil) ⟨by decide, by decide⟩ (fun i σ H' => ∃ x y z, σ = [some (.ref Y.p), some (.ref L.m), none, some (.ref du), x, y, z, none] ∧ Ex H2 H') (fun H3 e3 => ⟨_, _, _, rfl, e3⟩) (fun i σ H' hi => ?_) (fun σ H' => ?_)
    · rintro ⟨x, y, z, rfl, e⟩
      have e0 := e02.trans e
      refine q_do ⟨_, rfl, ?_⟩
      refine ⟨Y, A, 0, 0, rfl, hB.ex e0, hG, .inr ⟨.inl rfl, none, hLn, (fun q hq => by cases hq), fun _ => ⟨fun _ => ?_, fun h => absurd rfl h⟩⟩⟩
      intro p zl zps H3 np nz hpz e3 hp hz hzT
      have hd3 := e3 _ _ (e _ _ hdu2)
      refine q_when (b := false) (et_is (et_or (a := false) (b := false) (et_test (ev_is (ev_op (ev_op (ev_var rfl) ev_c (rv_ixL (SqL.of hp) rfl)) ev_c (rv_ne rfl)) rfl)) fun _ => et_not (a := true) (et_B (ev_call (ea_cons (ev_op (ev_var rfl) ev_c (rv_ixL (SqL.of hp) rfl)) (ea_cons (ev_var rfl) ea_nil)) fun H4 e4 Q4 q4 E4 => ⟨zl, du, zps, dps, due A A.n, rfl, e4 _ _ hz, e4 _ _ hd3, hzT.ex e4, hdT2.ex ((e.trans e3).trans e4), by omega, hd1, fun H5 e5 => q4 H5 e5⟩))) rfl) (fun h => by cases h) (fun _ H4 e4 => ?_)
      refine q_asg (ev_op (ev_var rfl) ev_c (rv_ixL (SqL.of (e4 _ _ hp)) rfl)) fun H5 e5 => ?_
      have hz5 := e5 _ _ (e4 _ _ hz)
      have zlen : 0 < zps.length := by rw [hzT.len]; omega
      have e25 := (((e.trans e3).trans e4).trans e5)
      have nz2 : H2 zl = none := fresh_back e nz
      have up : EvU (tTup (tCons (tC (.int 1)) (tCons (tC (.int 2)) tNil))) [some (.ref Y.p), some (.ref L.m), none, some (.ref du), some (.int (i : Int)), some (.ref p), some (.ref zl), none] H5 [.int 1, .int 2] := eu_tup (ea_cons ev_c (ea_cons ev_c ea_nil)) (by show 2 ≤ 100000; decide)
      refine q_asgG ?_
      refine up H5 (Ex.refl _) _ fun t1 H6 nt1 e6 ht1 => ?_
      refine ⟨_, rfl, zl, zps.map V.ref, (0 : Int), 0, rfl, rfl, e6 _ _ hz5, by
        unfold ixN
        rw [if_pos (by decide), if_pos (by rw [List.length_map]; omega)]
        rfl, ?_⟩
      have e26 : Ex H2 (upd H6 zl (.lst ((zps.map V.ref).set 0 (.ref t1)))) := Ex.mut (e25.trans e6) nz2
      refine s_appU (xs := (zps.map V.ref).set 0 (.ref t1)) upd_same (ev_var rfl) (eu_tup (ea_cons ev_c ea_nil) (by show 1 ≤ 100000; decide)) (by rw [List.length_set, List.length_map, hzT.len]; omega) fun p7 H7 _ e7 _ => ⟨_, _, _, rfl, Ex.mut (e26.trans e7) nz2⟩
    · rintro ⟨x, y, z, rfl, e⟩
      have e0 := e02.trans e
      refine q_asgL (xs := nv ((List.range 1).map fun k => lastOr (asc A.n (A.R k)))) (fun Hx ex Q q => ?_) fun ul H4 nul e4 hul => ?_
      · have h0 : lastOr (asc A.n (A.R 0)) = 0 := by
          have : asc A.n (A.R 0) = [] := asc_nil fun o _ _ => by
            cases q : A.R 0 o with
            | false => rfl
            | true => have := hG.rrng 0 o q; omega
          rw [this]; rfl
        have eq1 : nv ((List.range 1).map fun k => lastOr (asc A.n (A.R k))) = [V.int 0] := by
          show [V.int ((lastOr (asc A.n (A.R 0)) : Nat) : Int)] = _
          rw [h0]; rfl
        rw [eq1] at q
        exact el_lst (ea_cons ev_c ea_nil) (by show 1 ≤ 100000; decide) Hx ex Q q
      have e04 := e0.trans e4
      have nul0 : H ul = none := fresh_back e0 nul
      refine q_forR2 (lo := 1) (n := (A.n : Int) + 1) (ea_cons ev_c (ea_cons (ev_len1 (hM.ex e04) (ev_var rfl)) ea_nil)) ⟨by omega, by omega, by omega, by omega⟩
        (fun i σ H' => ∃ x2 x4 x5 x6, σ = [some (.ref Y.p), some (.ref L.m), x2, some (.ref du), x4, x5, x6, some (.ref ul)] ∧ Ex H H' ∧ H' ul = some (.lst (nv ((List.range (i + 1)).map fun k => lastOr (asc A.n (A.R k)))))) (fun H5 e5 => ⟨_, _, _, _, rfl, e04.trans e5, e5 _ _ hul⟩) (fun i σ H' hi => ?_) (fun σ H' => ?_)
      · rintro ⟨x2, x4, x5, x6, rfl, e5, hu⟩
        have ec : (1 : Int) + (i : Int) = ((i + 1 : Nat) : Int) := by omega
        rw [ec]
        have hi1 : i + 1 ≤ A.n := by omega
        refine q_do ⟨_, rfl, ?_⟩
        refine cons_go (tc_go (cons_go ⟨_, rfl, ?_⟩))
        refine ⟨Y, A, 1, ((i + 1 : Nat) : Int), rfl, hB.ex e5, hG, .inr ⟨.inr ⟨by omega, by omega⟩, none, hLn, (fun q hq => by cases hq), fun _ => ⟨(fun h => by cases h), fun _ => ?_⟩⟩⟩
        intro p H6 np e6 hp
        rw [Int.toNat_natCast] at hp
        have hM6 := hM.ex (e5.trans e6)
        have hmx := lastOr_max (A := A) (i + 1)
        refine q_when (b := false) (et_is (et_or (a := false) (b := false) (et_test (ev_is (ev_op (ev_op (ev_var rfl) ev_c (rv_ixL (SqL.of hp) rfl)) ev_c (rv_ne rfl)) rfl)) fun _ => et_or (a := false) (b := false) (et_not (a := true) (et_B (ev_call (ea_cons (ev_op (ev_var rfl) ev_c (rv_ixL (SqL.of hp) rfl)) ea_nil) fun H7 e7 Q7 q7 E7 => ⟨_, rfl, fun H8 e8 => q7 H8 e8⟩))) fun _ => et_test (ev_op (ev_op (ev_var rfl) ev_c (rv_ixL (SqL.of hp) rfl)) (ev_maxL (l := 0 :: asc A.n (A.R (i + 1))) (el_catNew2 (xs := [.int 0]) (ys := nv (asc A.n (A.R (i + 1)))) (el_lst (ea_cons ev_c ea_nil) (by show 1 ≤ 100000; decide)) (ev_inn hM6 five3 (ev_var rfl) (ev_var rfl) hi1) (hM6.i3 (i + 1) hi1) (by rw [nv_len]; have := hal (A.R (i + 1)); show 1 + _ ≤ 1000; omega)) hmx.1 hmx.2) (rv_neD (d := .int ((lastOr (asc A.n (A.R (i + 1))) : Nat) : Int)) (fun _ _ => .int _) (fun _ _ => .int _) rfl))) rfl) (fun h => by cases h) (fun _ H7 e7 => ?_)
        have e67 := e6.trans e7
        refine s_app (e67 _ _ hu) (ev_var rfl) (ev_op (ev_var rfl) ev_c (rv_ixL (SqL.of (e7 _ _ hp)) rfl)) (by simp; omega) fun H8 e8 => ⟨_, _, _, _, rfl, Ex.mut ((e5.trans e67).trans e8) nul0, ?_⟩
        rw [upd_same, List.range_succ (n := i + 1), List.map_append, nv_app]
        rfl
      · rintro ⟨x2, x4, x5, x6, rfl, e5, hu⟩
        rw [show ((A.n : Int) + 1 - 1).toNat = A.n by omega] at hu
        exact s_ret (ev_call (ea_cons (ev_var rfl) (ea_cons (ev_var rfl) ea_nil)) fun H6 e6 Q6 q6 E6 => ⟨L, A, ul, rfl, hM.ex (e5.trans e6), hG, hTr, e6 _ _ hu, fun H7 e7 => q6 H7 e7⟩) fun H6 e6 => k H6 (e5.trans e6)
end
end K27
set_option Elab.async false
set_option linter.all false
set_option maxRecDepth 100000
set_option maxHeartbeats 1000000
/-! K27L3: the law. -/
namespace K27
open PySem PySem.Spec PyProof.Rows L2 Evl
local macro_rules | `(tactic| walk_at "rd") => `(tactic| repeat (first | refine ⟨_, _, rfl, rfl, ?_⟩ | refine ⟨_, rfl, ?_⟩ | refine ⟨_, _, _, _, rfl, rfl, SqL.of (by assumption), rfl, ?_⟩ | refine Or.inl ⟨_, rfl, ?_⟩ | refine ⟨Or.inl (by decide), ?_⟩ | refine ⟨(by decide : _ ≠ _), ?_⟩))
section
variable {w : World} {K : PySem.W.Frag} {mg : Str → Option Value} {base : Heap}
theorem ev_tupleE2 {σ : L2.St} {H : Hp} {te tf : TE} {E : XK} {pb : Addr} {l : List Int} (h : Ev te σ H (.ref pb)) (hb : H pb = some (.tup (l.map V.int))) (h2 : EvU tf σ H (l.map V.int)) (hz : l.length ≤ 1000) : Ev (tCall (spTuple K) [] E (tCons te (tCons tf tNil))) σ H (.bl true) := fun H1 e Q q =>
  h H1 e _ fun H2 e2 => h2 H2 (e.trans e2) _ fun pa H3 npa e3 hpa => ⟨pb, pa, l, rfl, ((e.trans e2).trans e3) _ _ hb, hpa, hz, fun H4 e4 => q H4 ((e2.trans e3).trans e4)⟩
theorem sc_l_agrees : FnScope ["_law_source_here", "_law_book_here", "_law_model_here", "_law_many", "_law_every", "_law_pair_here", "_law_listed", "_law_far", "_law_number", "_law_told_here"] ["_law_source_here", "_law_book_here", "_law_model_here"] (defScope s_l_agrees) := ⟨rfl, rfl, rfl, by decide +kernel, rfl, by decide +kernel, by decide +kernel⟩
def spAgrees (K : PySem.W.Frag) : Sp := fun vs H Q _ => ∃ (s : Addr) (Y : BLay) (L : Lay) (A : Ab), vs = [.ref s, .ref Y.p, .ref L.m] ∧ Src H s ∧ BkE K H Y A A.n ∧ Md H L A ∧ Good A ∧ (allV A A.n).length ≤ 1000 ∧ L.ρ s = .no ∧ s ∉ Y.all ∧ ∀ H', Sm (· = s) H H' → Src H' s → Q (.bl true) H'
theorem ok_l_agrees (T : Txt K mg) : OkC PP w K mg base CX0 8 ("_law_agrees", none) ["_law_source_here", "_law_book_here", "_law_model_here"] (spAgrees K) :=
  ok0 T.F_l_agrees sc_l_agrees (fun _ _ _ _ _ _ us hl => match us, hl with | [_, _, _], _ => rfl) (by rintro vs H Q E ⟨s, Y, L, A, rfl, _⟩; rfl) fun f cdv A0 outer s0 H vs Q E hr h => by
    obtain ⟨s, Y, L, A, rfl, src, hB, hM, hG, hV, ns, nY, k⟩ := h
    refine ⟨_, (pss_cons (ps_set (i := 3) sc_l_agrees.nd rfl (Or.inl rfl) (pe_op op_sub (pe_callB (call_lenK (K := K)) (by rfl) T.z_len (by decide +kernel) (pa_cons (pe_ix (ix_listK (K := K)) (pv 2) pe_int (fun _ _ => rfl)) pa_nil)) pe_int)) (pss_cons (ps_set (i := 4) sc_l_agrees.nd rfl (Or.inl rfl) (pe_c (ok_l_all T) (hr.mono (by decide)) T.g_l_all pass0 (pa_cons (pv 2) pa_nil))) (pss_cons (ps_set (i := 5) sc_l_agrees.nd rfl (Or.inl rfl) (pe_c (ok_l_pair T) (hr.mono (by decide)) T.g_l_pair pass0 (pa_cons (pv 2) pa_nil))) (pss_cons (ps_set (i := 6) sc_l_agrees.nd rfl (Or.inl rfl) (pe_c (ok_all_versions T) (hr.mono (by decide)) T.g_all_versions pass0 (pa_cons (pv 1) (pa_cons pe_int pa_nil)))) (pss_cons (ps_if (PW.pt (pw_or (pt_cmpR op_ne (pe_cmpR op_eq (pe_callB (call_lenK (K := K)) (by rfl) T.z_len (by decide +kernel) (pa_cons (pv 5) pa_nil)) pe_int (nomark _)) (pe_cmpR op_eq (pe_callB (call_lenK (K := K)) (by rfl) T.z_len (by decide +kernel) (pa_cons (pv 4) pa_nil)) (pe_op op_add (pv 3) pe_int) (nomark _)) (nomark _)) (pw_or (pt_not (pt_val (pe_callB (call_isiK' (K := K)) (by rfl) T.z_isinstance (by decide +kernel) (pa_cons (pv 6) (pa_cons (pe_bltn (v := .ty "list") (by rfl) T.z_list (by decide +kernel) rfl) pa_nil))))) (pw_or1 (pt_cmpR op_ne (pe_callB (call_lenK (K := K)) (by rfl) T.z_len (by decide +kernel) (pa_cons (pv 6) pa_nil)) (pe_callB (call_lenK (K := K)) (by rfl) T.z_len (by decide +kernel) (pa_cons (pv 4) pa_nil)) (nomark _)))))) (pss_one (ps_ret pe_bl)) pss_nil) (pss_cons (ps_set (i := 7) sc_l_agrees.nd rfl (Or.inl rfl) (pe_op op_add (pe_op op_add (pv 3) pe_int) (pe_c (ok_l_draw T) (hr.mono (by decide)) T.g_l_draw pass0 (pa_cons (pv 0) (pa_cons pe_int pa_nil))))) (pss_cons (ps_for PassesOwn.never rfl (pi_listK (K := K) (pe_lst (pa_cons pe_int (pa_cons (pe_un un_neg pe_int) (pa_cons (pe_op op_add (pv 3) pe_int) (pa_cons (pv 7) (pa_cons (pe_op op_sub pe_int (pv 7)) pa_nil))))))) (pg_name (i := 8) sc_l_agrees.nd rfl (Or.inl rfl)) (pss_cons (ps_set (i := 9) sc_l_agrees.nd rfl (Or.inl rfl) (pe_c (ok_l_told T) (hr.mono (by decide)) T.g_l_told pass0 (pa_cons (pv 1) (pa_cons pe_int (pa_cons (pv 8) pa_nil))))) (pss_one (ps_if (PW.pt (pw_or (pt_cmpR op_ne (pe_ix (ix_listK (K := K)) (pv 9) pe_int (fun _ _ => rfl)) pe_int (nomark _)) (pw_or1 (pt_not (pt_val (pe_c (ok_l_tuple T) (hr.mono (by decide)) T.g_l_tuple pass0 (pa_cons (pe_ix (ix_listK (K := K)) (pv 9) pe_int (fun _ _ => rfl)) (pa_cons (pe_tup (pa_cons (pv 8) pa_nil)) pa_nil)))))))) (pss_one (ps_ret pe_bl)) pss_nil)))) (pss_one (ps_ret (pe_ifExp (pt_cmpR op_eq (pe_callB (call_lenK (K := K)) (by rfl) T.z_len (by decide +kernel) (pa_cons (pv 5) pa_nil)) pe_int (nomark _)) (pe_c (ok_l_is_tree T) (hr.mono (by decide)) T.g_l_is_tree pass0 (pa_cons (pv 1) (pa_cons (pv 2) pa_nil))) (pe_c (ok_l_is_no_tree T) (hr.mono (by decide)) T.g_l_is_no_tree pass0 (pa_cons (pv 1) (pa_cons (pv 2) (pa_cons (pv 5) pa_nil)))))))))))))), ?_⟩
    have hnm := hM.nmax
    refine q_asg (v := .int (A.n : Int)) (ev_is (ev_op (ev_len1 hM (ev_var rfl)) ev_c rv_I0) (by show V.int ((A.n : Int) + 1 - 1) = _; congr 1; omega)) fun H1 e1 => ?_
    refine q_asgZ (vs := allV A A.n) (ez_call (ea_cons (ev_var rfl) ea_nil) fun H2 e2 Q2 q2 => ⟨L, A, rfl, hM.ex (e1.trans e2), by omega, fun p ps H3 np e3 hp hT => q2 p ps H3 np e3 hp hT⟩) fun ev eps H2 nev e2 hev hevT => ?_
    have e02 := e1.trans e2
    refine q_do ⟨_, rfl, L, A, rfl, hM.ex e02, hG, fun o hL => ?_⟩
    intro pa H3 npa e3 hpa
    have e03 := e02.trans e3
    have hev3 := e3 _ _ hev
    refine q_do ⟨_, rfl, Y, A, 1000, rfl, hB.ex e03, hG, hV, by decide, ?_⟩
    intro li lxs H4 nli e4 hli hll
    have e04 := e03.trans e4
    have hpl : ((nv (pairL o)).length = 0) ↔ o = none := by
      cases o with
      | none => exact ⟨fun _ => rfl, fun _ => rfl⟩
      | some q => exact ⟨(fun h => by cases h), (fun h => by cases h)⟩
    have hel : (eps.map V.ref).length = (allV A A.n).length := by rw [List.length_map, hevT.len]
    have htr : (decide (V.int ((nv (pairL o)).length : Int) = V.int 0)) = decide (V.int ((eps.map V.ref).length : Int) = V.int ((A.n : Int) + 1)) := by
      have hc : (o = none) ↔ (allV A A.n).length = A.n + 1 := by
        rw [← tree_iff hG, tree_none]
        constructor
        · intro h; rw [h] at hL; exact hL
        · intro h; exact (LeastP.uniq hL h)
      rw [Bool.eq_iff_iff, decide_eq_true_iff, decide_eq_true_iff, hel]
      constructor
      · intro h
        have h0 : (nv (pairL o)).length = 0 := by injection h with h; omega
        rw [hc.mp (hpl.mp h0)]
        rfl
      · intro h
        have h0 : (allV A A.n).length = A.n + 1 := by injection h with h; omega
        rw [hpl.mpr (hc.mpr h0)]
        rfl
    refine q_when (b := false) (et_is (et_or (a := false) (b := false) (et_test (ev_is (ev_op (ev_op (ev_lenT (ev_var rfl) (SqT.of (e4 _ _ hpa))) ev_c (rv_eq rfl)) (ev_op (ev_len (ev_var rfl) (SqL.of (e4 _ _ hev3))) (ev_op (ev_var rfl) ev_c rv_I0) (rv_eq rfl)) (rv_ne rfl)) (by rw [htr]; simp))) fun _ => et_or (a := false) (b := false) (et_not (a := true) (et_B (ev_isI (ev_var rfl) ev_c (fun H5 e5 => .base (.lst (e5 _ _ hli))) (kit_ty (by decide +kernel))))) fun _ => et_test (ev_is (ev_op (ev_len (ev_var rfl) (SqL.of hli)) (ev_len (ev_var rfl) (SqL.of (e4 _ _ hev3))) (rv_ne rfl)) (by rw [hel, hll]; simp))) rfl) (fun h => by cases h) (fun _ H5 e5 => ?_)
    have e05 := e04.trans e5
    have src5 := src.ex e05
    refine q_do ?_
    refine op_go (op_go ⟨_, rfl, ⟨_, _, rfl, rfl, ?_⟩⟩)
    refine dr_go src5 rfl (fun H1 _ => ev_c) (by decide) (by decide) _ fun r H6 hr6 src6 m6 => ?_
    refine ⟨_, _, rfl, rfl, ?_⟩
    have m06 := Sm.pre e05 m6
    have nU : ∀ b, b = s → L.ρ b = .no := fun b e => by rw [e]; exact ns
    have hM6 := hM.sm m06 nU
    have hB6 := hB.sm m06 fun b hb e => nY (e ▸ hb)
    have nps : pa ≠ s := fun e => by subst e; exact (src.ex e02).some npa
    have hpa6 := m6 _ _ (e5 _ _ (e4 _ _ hpa)) nps
    refine q_forNLn (xs := ([0, -1, (A.n : Int) + 1, (A.n : Int) + 2 + (r : Int), 0 - ((A.n : Int) + 2 + (r : Int))] : List Int).map V.int) (el_lst (ea_cons ev_c (ea_cons (ev_un ev_c ru_neg) (ea_cons (ev_op (ev_var rfl) ev_c rv_I0) (ea_cons (ev_var rfl) (ea_cons (ev_op ev_c (ev_var rfl) rv_I0) ea_nil))))) (by show 5 ≤ 100000; decide))
      (fun pl i σ H' => ∃ x y, σ = [some (.ref s), some (.ref Y.p), some (.ref L.m), some (.int (A.n : Int)), some (.ref ev), some (.ref pa), some (.ref li), some (.int ((A.n : Int) + 2 + (r : Int))), x, y] ∧ Ex H6 H' ∧ H' pl = some (.lst (([0, -1, (A.n : Int) + 1, (A.n : Int) + 2 + (r : Int), 0 - ((A.n : Int) + 2 + (r : Int))] : List Int).map V.int))) (fun pl H7 npl e7 hpl => ⟨_, _, rfl, e7, hpl⟩) (fun pl i σ H' _ ⟨x, y, _, _, h⟩ => SqL.of h) (fun pl i x σ H' hx => ?_) (fun pl σ H' => ?_)
    · rintro ⟨x0, y0, rfl, e, hpl⟩
      rw [List.getElem?_map] at hx
      cases hn : ([0, -1, (A.n : Int) + 1, (A.n : Int) + 2 + (r : Int), 0 - ((A.n : Int) + 2 + (r : Int))] : List Int)[i]? with
      | none => rw [hn] at hx; cases hx
      | some n =>
        rw [hn] at hx
        cases hx
        have hbad : ¬ (1 ≤ n ∧ n ≤ A.n) := by
          have := List.mem_of_getElem? hn
          simp only [List.mem_cons, List.mem_nil_iff, or_false] at this
          rcases this with h | h | h | h | h <;> omega
        refine q_do ⟨_, rfl, ?_⟩
        refine cons_go (tc_go (cons_go ⟨_, rfl, ?_⟩))
        refine ⟨Y, A, 1, n, rfl, hB6.ex e, hG, .inl ⟨by decide, hbad, ?_⟩⟩
        intro p t H7 np e7 hp ht
        refine s_when (b := false) (et_is (et_or (a := false) (b := false) (et_test (ev_is (ev_op (ev_op (ev_var rfl) ev_c (rv_ixL (SqL.of hp) rfl)) ev_c (rv_ne rfl)) rfl)) fun _ => et_not (a := true) (et_B (ev_tupleE2 (l := [n]) (ev_op (ev_var rfl) ev_c (rv_ixL (SqL.of hp) rfl)) ht (eu_tup (ea_cons (ev_var rfl) ea_nil) (by show 1 ≤ 100000; decide)) (by show 1 ≤ 1000; decide)))) rfl) (fun h => by cases h) (fun _ H8 e8 => ⟨_, _, rfl, (e.trans e7).trans e8, e8 _ _ (e7 _ _ hpl)⟩)
    · rintro ⟨x0, y0, rfl, e, hpl2⟩
      have hM7 := hM6.ex e
      have hB7 := hB6.ex e
      refine s_ret (v := .bl true) (ev_if (b := decide (V.int ((nv (pairL o)).length : Int) = V.int 0)) (et_test (ev_op (ev_lenT (ev_var rfl) (SqT.of (e _ _ hpa6))) ev_c (rv_eq rfl))) (fun hb => ?_) (fun hb => ?_)) fun H8 e8 => k H8 ((m06.ex e).ex e8) ((src6.ex e).ex e8)
      · have h0 : o = none := hpl.mp (by have h := of_decide_eq_true hb; injection h with h; omega)
        subst h0
        have hTr := tree_none.mpr hL
        exact ev_call (ea_cons (ev_var rfl) (ea_cons (ev_var rfl) ea_nil)) fun H9 e9 Q9 q9 E9 => ⟨Y, L, A, rfl, hB7.ex e9, hM7.ex e9, hG, hTr, fun H10 e10 => q9 H10 e10⟩
      · cases o with
        | none => cases hb
        | some q => exact ev_call (ea_cons (ev_var rfl) (ea_cons (ev_var rfl) (ea_cons (ev_var rfl) ea_nil))) fun H9 e9 Q9 q9 E9 => ⟨Y, L, A, q, pa, rfl, hB7.ex e9, hM7.ex e9, hG, hL, e9 _ _ (e _ _ hpa6), fun H10 e10 => q9 H10 e10⟩
theorem sc_law : FnScope ["_law_script", "_law_source_here", "_law_model_here", "_law_book_here", "_law_number", "_law_told_here"] ["_law_script"] (defScope s_law) := ⟨rfl, rfl, rfl, by decide +kernel, rfl, by decide +kernel, by decide +kernel⟩
def spLaw (K : PySem.W.Frag) : Sp := fun vs H Q _ => ∃ (a : Addr) (ns : List Int), vs = [.ref a] ∧ SqL K H a (ns.map V.int) ∧ ∀ H', Q (.bl true) H'
theorem agree_bk {H : Hp} {Y : BLay} {A A' : Ab} (ag : Agree A A') (hn : A'.n ≤ 30) (h : BkE K H Y A A.n) : BkE K H Y A' A.n := by
  obtain ⟨fN, fB, fW, hB⟩ := h
  refine ⟨fN, fB, fW, hB.nd, by rw [ag.cells]; exact hB.p, hB.n, hB.v, hB.s, hB.e, hB.b, by rw [ag.cells]; exact hB.w, fun i hi => (hB.be i hi).congr fun o => (ag.R i o hi).symm, fun i hi => (hB.bb i hi).congr fun o => ?_, fun c hc => (hB.bw c (by rw [ag.cells] at hc; exact hc)).congr fun o => ?_, by rw [ag.n]; omega, hn, by rw [ag.cells]; exact hB.c1, by rw [ag.cells]; exact hB.c2⟩
  · by_cases ho : o ≤ A.n
    · rw [ag.B i o hi ho]
    · rw [decide_eq_false ho, Bool.and_false, Bool.and_false]
  · by_cases ho : 1 ≤ o ∧ o ≤ A.n
    · rw [ag.ws o ho.2]
    · rw [decide_eq_false ho, Bool.false_and, Bool.false_and]
theorem Ex.sm0 {U : Addr → Prop} {H H1 H' : Hp} (e : Ex H H1) (s : Sm U H1 H') (h : ∀ b, U b → H b = none) : Ex H H' := fun b o hb => s b o (e b o hb) fun u => by
  rw [h b u] at hb
  cases hb
theorem methN_goE {σ : L2.St} {H : Hp} {C : Addr} {m : Str} {n j : Nat} {sp : Sp} {gV : List V → List V → List V} {E : XK} {ta : TE} {t tk : TA} {Q : VK} (h : ta σ H fun x H1 => ∃ a dx fs, x = .ref a ∧ H1 a = some (.ins C dx fs) ∧ fs.lookup m = none ∧
  t σ H1 fun vs H2 => tk σ H2 fun zs H3 => vs.length + 1 = n ∧ zs.length = j ∧ sp (gV (x :: vs) zs) H3 Q E) : tMethN C m n j sp gV E ta t tk σ H Q := h
theorem q_ifDN {σ : L2.St} {H : Hp} {c : TT} {tu tz : TS} {D : Ends} (h : c σ H (fun b H1 => if b = true then tu { D with nx := tz D } σ H1 else tz D σ H1)) : tSeq (tIfS c tu tNext) tz D σ H := h
theorem retAnd_go {σ : L2.St} {H : Hp} {ta tb : TE} {D : Ends} (h : ta σ H fun x H1 => ∃ c, x = .bl c ∧ if c = true then tb σ H1 D.rt else D.rt (.bl false) H1) : tRet (tAndV ta tb) D σ H := h
/-- as ok0, with the def itself -/
theorem ok0F {P : Program} {x qual : Str} {params : Arguments} {body : List Stmt} {scope : Scope} {N ps : List Str} {k : Nat} {sp : Sp} {p : Str × Option Str}
    (hF : ∃ fd, FunD K x qual params body scope [] [] (He.fAd K p) fd) (S : FnScope N ps scope)
    (hb : ∀ (kV doc pm : Value) (an : Option Addr) (cdv ct : Value) (us : List Value), us.length = ps.length → bindArgs (PySem.W.fnOf x qual params body scope .none kV doc pm an cdv ct) ⟨us, []⟩ = pure (ps.zip us))
    (len : ∀ vs H Q E, sp vs H Q E → vs.length = ps.length)
    (hbody : ∀ (base : Heap) (f : Addr) (cdv : Value) (A : Around) (outer : List Env) (s : Shared) (H : Hp) (vs : List V) (Q : VK) (E : XK), Room k (A.deeper (envOfC qual scope s.heap.objs.size f cdv)) → sp vs H Q E →
      ∃ t, PSs (cxOf CX0 P w K mg base N qual scope f cdv A outer s H E).nox body t ∧ t { nx := fun _ H' => Q .non H', rt := Q } (start N vs) H) : ∃ fd, (∀ base, FnOk P w K mg base CX0 (k + 1) (He.fAd K p) fd ps sp) ∧ ∀ (s : Shared) (us : List Value), us.length = ps.length → BindsTo s fd ⟨us, []⟩ (ps.zip us) := by
  obtain ⟨fd, F⟩ := hF
  exact ⟨fd, fun base => F.ok S len (fun cdv A outer s H vs Q E hr h => by
    obtain ⟨t, h1, h2⟩ := hbody base (He.fAd K p) cdv A outer s H vs Q E hr h
    exact ⟨t, h1.nox, h2⟩), F.bindsA hb⟩
theorem ok_law (T : Txt K mg) : ∃ fd, (∀ base, FnOk PP w K mg base CX0 9 (He.fAd K ("law", none)) fd ["_law_script"] (spLaw K)) ∧ ∀ (s : Shared) (us : List Value), us.length = ["_law_script"].length → BindsTo s fd ⟨us, []⟩ (List.zip ["_law_script"] us) :=
  ok0F T.F_law sc_law (fun _ _ _ _ _ _ us hl => match us, hl with | [_], _ => rfl) (by rintro vs H Q E ⟨a, ns, rfl, _⟩; rfl) fun base f cdv A0 outer s0 H vs Q E hr h => by
    obtain ⟨a, ns, rfl, hsq, k⟩ := h
    refine ⟨_, (pss_cons (ps_set (i := 1) sc_law.nd rfl (Or.inl rfl) (pe_c (ok_l_source T) (hr.mono (by decide)) T.g_l_source pass0 (pa_cons (pv 0) (pa_cons pe_int pa_nil)))) (pss_cut (ps_if (pt_cmpR op_eq (pe_c (ok_l_draw T) (hr.mono (by decide)) T.g_l_draw pass0 (pa_cons (pv 1) (pa_cons pe_int pa_nil))) pe_int (nomark _)) (pss_one (ps_set (i := 2) sc_law.nd rfl (Or.inl rfl) (pe_c (ok_l_tree T) (hr.mono (by decide)) T.g_l_tree pass0 (pa_cons (pe_c (ok_l_source T) (hr.mono (by decide)) T.g_l_source pass0 (pa_cons (pv 0) (pa_cons pe_int pa_nil))) (pa_cons (pe_ifExp (pt_cmpR op_eq (pe_c (ok_l_draw T) (hr.mono (by decide)) T.g_l_draw pass0 (pa_cons (pv 1) (pa_cons pe_int pa_nil))) pe_int (nomark _)) pe_int pe_int) pa_nil))))) (pss_one (ps_set (i := 2) sc_law.nd rfl (Or.inl rfl) (pe_c (ok_l_world T) (hr.mono (by decide)) T.g_l_world pass0 (pa_cons (pv 0) (pa_cons (pv 1) (pa_cons pe_int pa_nil))))))) (pss_cons (ps_set (i := 3) sc_law.nd rfl (Or.inl rfl) (pe_c (ok_l_book T) (hr.mono (by decide)) T.g_l_book pass0 (pa_cons (pv 2) pa_nil))) (pss_cons (ps_if (pt_not (pt_val (pe_c (ok_l_agrees T) (hr.mono (by decide)) T.g_l_agrees pass0 (pa_cons (pv 1) (pa_cons (pv 3) (pa_cons (pv 2) pa_nil)))))) (pss_one (ps_ret pe_bl)) pss_nil) (pss_cons (ps_expr (pe_c (ok_l_grow T) (hr.mono (by decide)) T.g_l_grow pass0 (pa_cons (pe_c (ok_l_source T) (hr.mono (by decide)) T.g_l_source pass0 (pa_cons (pv 0) (pa_cons pe_int pa_nil))) (pa_cons (pv 2) (pa_cons (pe_callB (call_lenK (K := K)) (by rfl) T.z_len (by decide +kernel) (pa_cons (pe_ix (ix_listK (K := K)) (pv 2) pe_int (fun _ _ => rfl)) pa_nil)) pa_nil))))) (pss_cons (ps_set (i := 4) sc_law.nd rfl (Or.inl rfl) (pe_op op_sub (pe_callB (call_lenK (K := K)) (by rfl) T.z_len (by decide +kernel) (pa_cons (pe_ix (ix_listK (K := K)) (pv 2) pe_int (fun _ _ => rfl)) pa_nil)) pe_int)) (pss_cons (ps_set (i := 5) sc_law.nd rfl (Or.inl rfl) (pe_mp T (hr.mono (by decide)) pass0 (pv 3) (pa_cons (pe_callTy (call_listK (K := K)) (by rfl) T.z_list (by decide +kernel) (pa_cons (pe_ix (ix_listK (K := K)) (pe_ix (ix_listK (K := K)) (pv 2) pe_int (fun _ _ => rfl)) (pv 4) (fun _ _ => rfl)) pa_nil)) pa_nil) (pk_cons (pe_callTy (call_tupK (K := K)) (by rfl) T.z_tuple (by decide +kernel) (pa_cons (pe_ix (ix_listK (K := K)) (pe_ix (ix_listK (K := K)) (pv 2) pe_int (fun _ _ => rfl)) (pv 4) (fun _ _ => rfl)) pa_nil)) (pk_cons (pe_callTy (call_tupK (K := K)) (by rfl) T.z_tuple (by decide +kernel) (pa_cons (pe_ix (ix_listK (K := K)) (pe_ix (ix_listK (K := K)) (pv 2) pe_int (fun _ _ => rfl)) (pv 4) (fun _ _ => rfl)) pa_nil)) (pk_cons (pe_ix (ix_listK (K := K)) (pe_ix (ix_listK (K := K)) (pv 2) pe_int (fun _ _ => rfl)) (pv 4) (fun _ _ => rfl)) pk_nil))))) (pss_one (ps_ret (pe_and (pe_cmpR op_eq (pv 5) (pv 4) (nomark _)) (pe_one (pe_c (ok_l_agrees T) (hr.mono (by decide)) T.g_l_agrees pass0 (pa_cons (pv 1) (pa_cons (pv 3) (pa_cons (pv 2) pa_nil))))))))))))))), ?_⟩
    refine q_do ⟨_, rfl, a, ns, 0, rfl, hsq, ?_⟩
    intro s H1 ns1 e1 src1
    refine q_cut (M := fun σ' H' => ∃ L A, σ' = [some (.ref a), some (.ref s), some (.ref L.m), none, none, none] ∧ Good A ∧ Md H' L A ∧ A.n ≤ 20 ∧ (allV A A.n).length ≤ 64 ∧ L.ρ s = .no ∧ Src H' s ∧ Ex H H') ?_ ?_
    · refine s_ifD ?_
      refine (ed_draw rfl (fun H1 _ => ev_c) (by decide) (by decide)).eq0 H1 (Sm.refl _ _) src1 _ ?_
      rintro b H2 _ src2 m2
      have e2 : Ex H H2 := Ex.sm0 e1 m2 fun b hb => by rw [hb]; exact ns1
      refine it2 (fun hb => ?_) (fun hb => ?_)
      · refine q_last (cons_go ⟨_, rfl, a, ns, 1, rfl, ex_l e2 hsq, ?_⟩)
        intro s2 H3 ns2 e3 src23
        refine cons_go ?_
        refine dr_go (src2.ex e3) rfl (fun H1 _ => ev_c) (by decide) (by decide) _ fun r H4 hr4 src4 m4 => ?_
        refine ⟨rfl, _, rfl, ?_⟩
        have nes : s2 ≠ s := fun e => by subst e; exact src2.some ns2
        have src24 := src23.sm m4 nes
        have e4 : Ex H H4 := Ex.sm0 (e2.trans e3) m4 fun b hb => by rw [hb]; exact ns1
        refine it2 (fun _ => ?_) (fun _ => ?_)
        · refine ⟨s2, 20, rfl, src24, by decide, ?_⟩
          rintro L A H5 ⟨hn, hT, _⟩ hG hM hL src5 m5
          exact ⟨L, A, rfl, hG, hM, by omega, by rw [(tree_iff hG).mp hT]; omega, not_src src4 hL, src4.sm m5 (fun e => nes e.symm), Ex.sm0 e4 m5 fun b hb => by rw [hb]; exact fresh_back e2 ns2⟩
        · refine ⟨s2, 8, rfl, src24, by decide, ?_⟩
          rintro L A H5 ⟨hn, hT, _⟩ hG hM hL src5 m5
          exact ⟨L, A, rfl, hG, hM, by omega, by rw [(tree_iff hG).mp hT]; omega, not_src src4 hL, src4.sm m5 (fun e => nes e.symm), Ex.sm0 e4 m5 fun b hb => by rw [hb]; exact fresh_back e2 ns2⟩
      · refine q_last ⟨_, rfl, _, rfl, a, s, ns, 6, rfl, ex_l e2 hsq, src2, fun H' m' => ex_l (Ex.sm0 e2 m' fun b hb => by rw [hb]; exact ns1) hsq, by decide, ?_⟩
        intro L A H5 hn hG hM hL src5 m5
        have hn : A.n ≤ 6 := hn
        exact ⟨L, A, rfl, hG, hM, by omega, Nat.le_trans (allV_pow A A.n) (Nat.pow_le_pow_right (by decide) hn), not_src src2 hL, src5, Ex.sm0 e2 m5 fun b hb => by rw [hb]; exact ns1⟩
    · rintro σ' H2 ⟨L, A, rfl, hG, hM, hn, hV, hs, src2, e2⟩
      refine q_do ⟨_, rfl, L, A, rfl, hM, hG, ?_⟩
      intro Y H3 hB hY e3
      have sY : s ∉ Y.all := fun h => src2.some (hY s h)
      have LY : ∀ b ∈ Y.all, L.ρ b = .no := fun b hb => hM.no (hY b hb)
      have nU : ∀ b, b = s → L.ρ b = .no := fun b e => by rw [e]; exact hs
      refine q_ifDN ?_
      refine ⟨_, rfl, _, rfl, _, rfl, s, Y, L, A, rfl, src2.ex e3, hB, hM.ex e3, hG, by omega, hs, sY, ?_⟩
      intro H4 m4 src4
      refine ⟨true, rfl, it2 (fun h => by cases h) fun _ => ?_⟩
      have e4 : Ex H H4 := Ex.sm0 (e2.trans e3) m4 fun b hb => by rw [hb]; exact ns1
      have hM4 := (hM.ex e3).sm m4 nU
      have hB4 := hB.sm m4 fun b hb e => sY (e ▸ hb)
      refine q_doD ?_
      refine cons_go ?_
      refine ⟨_, rfl, a, ns, 2, rfl, ex_l e4 hsq, ?_⟩
      intro s2 H5 ns2 e5 src25
      refine cons_go ⟨_, rfl, ?_⟩
      refine cons_go (ev_len0 (hM4.ex e5) (ev_var rfl) H5 (Ex.refl _) _ fun H6 e6 => ?_)
      have e46 := e5.trans e6
      have hM6 := hM4.ex e46
      obtain ⟨fN, fB, fW, hB6⟩ := hB4.ex e46
      have nes : s2 ≠ s := fun e => by subst e; exact src4.some ns2
      have s2Y : s2 ∉ Y.all := fun h => by
        obtain ⟨fN, fB, fW, hB4'⟩ := hB4
        exact hB4'.some h ns2
      have hs2 : L.ρ s2 = .no := hM4.no ns2
      refine ⟨s2, L, A, rfl, src25.ex e6, hs2, hM6, hG, by omega, ?_⟩
      intro A' L' H7 ag hG' hLm hM' hL' src27 m7
      have hB7 := BkE.sm (⟨fN, fB, fW, hB6⟩ : BkE K H6 Y A A.n) m7 fun b hb u => u.elim (fun e => s2Y (e ▸ hb)) fun q => q (LY b hb)
      have src6 := src4.ex e46
      have src7 := src6.sm m7 fun u => u.elim (fun e => nes e.symm) fun q => q hs
      have hs' : L'.ρ s = .no := Classical.byContradiction fun h => (hL' s h).elim (fun q => q hs) fun q => src6.some q
      have LY' : ∀ b, b ∈ Y.all → L'.ρ b = .no := fun b hb => Classical.byContradiction fun h => (hL' b h).elim (fun q => q (LY b hb)) fun q => hB6.some hb q
      rw [← hLm]
      have hn' := ag.n
      refine q_asg (v := .int ((A.n + 1 : Nat) : Int)) (ev_is (ev_op (ev_len1 hM' (ev_var rfl)) ev_c rv_I0) (by show V.int ((A'.n : Int) + 1 - 1) = _; rw [hn']; congr 1; omega)) fun H8 e8 => ?_
      have hM8 := hM'.ex e8
      obtain ⟨gN, gB, gW, hBk⟩ := agree_bk ag (by omega) (hB7.ex e8)
      have hi1 : A.n + 1 ≤ A'.n := by omega
      obtain ⟨ts, hts, hT, _⟩ := hM8.i1 (A.n + 1) hi1
      refine q_do (methN_goE ⟨_, rfl, Y.p, _, _, rfl, hBk.p, rfl, ?_⟩)
      have hrow : ∀ {Hc : Hp} {ii : Nat}, Md Hc L' A' → five ii → Ev (tOp (rIxL K) (tOp (rIxL K) (tVar 2) (tC (.int (ii : Int)))) (tVar 4)) [some (.ref a), some (.ref s), some (.ref L'.m), some (.ref Y.p), some (.int ((A.n + 1 : Nat) : Int)), none] Hc (.ref (L'.a ii (A.n + 1))) := fun hMc hii => ev_inn hMc hii (ev_var rfl) (ev_var rfl) hi1
      refine cons_go (el_list (hrow (ii := 1) hM8 five1) (SqL.of hts) H8 (Ex.refl _) _ fun wl H9 nwl e9 hwl => ?_)
      refine nil_go ?_
      have hM9 := hM8.ex e9
      have h5 := hM9.i5 (A.n + 1) hi1
      have h6 := hM9.i6 (A.n + 1) hi1
      refine cons_go (eu_tup1 (hrow (ii := 5) hM9 five5) (SqL.of h5) H9 (Ex.refl _) _ fun rl H10 nrl e10 hrl => ?_)
      have hM10 := hM9.ex e10
      refine cons_go (eu_tup1 (hrow (ii := 6) hM10 five6) (SqL.of (e10 _ _ h6)) H10 (Ex.refl _) _ fun cl H11 ncl e11 hcl => ?_)
      have hM11 := hM10.ex e11
      have hsz : Ev (tOp (rIxL K) (tOp (rIxL K) (tVar 2) (tC (.int 2))) (tVar 4)) [some (.ref a), some (.ref s), some (.ref L'.m), some (.ref Y.p), some (.int ((A.n + 1 : Nat) : Int)), none] H11 (.int (A'.sz (A.n + 1))) := ev_op (ev_row (i := 2) hM11 (ev_var rfl) (by omega)) (ev_var rfl) (rv_ixL (SqL.of hM11.o2) (at_map (fun k => V.int (A'.sz k)) (by omega)))
      refine cons_go (hsz H11 (Ex.refl _) _ fun H12 e12 => ?_)
      have e102 := (e10.trans e11).trans e12
      have e92 := e9.trans e102
      refine ⟨rfl, rfl, Y, A', A.n, wl, rl, cl, ts, rfl, ⟨gN, gB, gW, hBk.ex e92⟩, hG', hi1, SqL.of (e102 _ _ hwl), hT.ex e92, SqT.of (e12 _ _ (e11 _ _ hrl)), SqT.of (e12 _ _ hcl), ?_⟩
      intro H13 hB13 m13
      rw [← hn'] at hB13
      have hM13 := (hM8.ex e92).sm m13 LY'
      have src13 := ((src7.ex e8).ex e92).sm m13 sY
      have hlen := ag.len hG hG'
      refine retAnd_go (ev_op (ev_var rfl) (ev_var rfl) (rv_eq rfl) H13 (Ex.refl _) _ fun H14 e14 => ⟨_, rfl, it2 (fun _ => ?_) fun h => ?_⟩)
      · exact ⟨_, rfl, _, rfl, _, rfl, s, Y, L', A', rfl, src13.ex e14, hB13.ex e14, hM13.ex e14, hG', by omega, hs', sY, fun H' _ _ => k H'⟩
      · exact absurd h (by simp)
end
end K27
set_option Elab.async false
set_option linter.all false
set_option maxRecDepth 100000
set_option maxHeartbeats 4000000
/-! K27Fin: the row. -/
open PySem PySem.W PySem.Calls PyProof.Rows
theorem PySem.Challenge.cw_livecopy_k27_whole_trees_holds : PySem.Challenge.rw_livecopy_k27_whole_trees.Holds := by
  w_on; o_law
  refine HandSHeadRun.head_any (r := OpenLaw.row PySem.Challenge.rw_livecopy_k27_whole_trees) (q := K27.qv) (H := K27.hk) (ob := K27.ob) (M := 6000) (loose := K27.names) (d := HandSHeadRun.topDef (OpenLaw.row PySem.Challenge.rw_livecopy_k27_whole_trees).prog 50) (kwd := []) K27.ob_eq
    (by kernel_rfl) (fun s => by kernel_rfl) K27.run (by kernel_rfl) (by kernel_rfl) (by kernel_rfl) (by rfl) (by first | assumption | decide +kernel) (by decide +kernel) ⟨rfl, rfl, rfl, rfl, rfl, by decide +kernel⟩ ?hw ?hc
  case hw => w_witness2
  case hc =>
    refine L2.walk_ofE (l := PySem.Challenge.rw_livecopy_k27_whole_trees) (n := 63) (k := 9) (x := "_law_script") (CX := L2.CX0) rfl (by decide) (by kernel_rfl) ⟨rfl, by decide, by decide⟩ ?F (fun _ _ _ _ z => z)
    intro w mg fa h Y G hmg0
    obtain ⟨K, KX, c⟩ := Y
    have hmg : mg ("law" : PySem.Str) = some (.ref fa) := by
      have e : (HandSHeadRun.topDef (OpenLaw.row PySem.Challenge.rw_livecopy_k27_whole_trees).prog 50).name = ("law" : PySem.Str) := by kernel_rfl
      rw [← e]
      exact hmg0
    have T : K27.Txt K mg := K27.Txt.of KX G c
    have e := hmg.symm.trans T.g_law
    cases e
    obtain ⟨fd, hF, hb⟩ := K27.ok_law (w := w) T
    exact ⟨K, fd, K27.spLaw K, KX, fun s v => hb s [v] rfl, fun H a ns hl _ hS => ⟨a, ns, rfl, hS, fun _ => rfl⟩, fun base _ _ => hF base⟩
