import PyProof.Rows.All
import Wide.All
import OpenK.AllK
import Wide.FinOn
import PyProof.EqAt
import PyProof.EqKinds
import PyProof.TupleCall
import KE.KIsNot
import KE.KIsAll
import KE.KFromBytes
import KE.KIntText
import KE.KCallOwn
import KE.KMathG
import KE.KMathGC
import KE.KExcSuper
import HandS.ForMost
import HandS.ForExc
import HandS.More
import HandS.IsInst
import HandS.Codes
import HandS.SlotsOwn
import HandS.ClsMeth
import HandS.Gcd
import HandS.Sort
import HandS.SortRule
import HandS.Wide
import HandS.WideMore
import HandS.ExcInit
import HandS.ExcField
import HandS.ExcIs
import HandS.CallSlots
import HandS.Conv
import HandS.Evl
import HandS.Defaults
import HandS.Steps
import HandS.Head2
import HandS.HeadEnd
import HandS.HeadHook2
import HandS.HeadNt
import HandS.TryOnly
import HandS.StrMore
import HandS.ExcOwn
import HandS.WordsExc
import HandS.Head0
import HandS.Head1
import HandS.HeadHook1
import HandS.Head3
import PySem.Challenge.RW_latelink_k28_whole_trees_and_ways_back
set_option Elab.async false
set_option linter.all false
set_option maxRecDepth 100000
set_option maxHeartbeats 4000000
namespace Lw
open PySem PySem.Spec PySem.Calls PyProof.Rows L2 PySem.HandSPX PySem.W
def topS (i : Nat) : Stmt := PySem.Challenge.pw_latelink_k28_whole_trees_and_ways_back.main.body.getD i (.Pass ⟨0, 0, 0, 0⟩)
abbrev s_check_size : Stmt := topS 17
abbrev s_check_operation : Stmt := topS 18
abbrev s_is_number : Stmt := topS 19
abbrev s_numbers : Stmt := topS 22
abbrev s_read_rights : Stmt := topS 23
abbrev s_read_lefts : Stmt := topS 24
abbrev s_read_outs : Stmt := topS 25
abbrev s_Links___init__ : Stmt := inClass (topS 26) 1
abbrev s_Links_built : Stmt := inClass (topS 26) 2
abbrev s_Links_read : Stmt := inClass (topS 26) 3
abbrev s_Links_left : Stmt := inClass (topS 26) 4
abbrev s_Links_right : Stmt := inClass (topS 26) 5
abbrev s_Links_is_out : Stmt := inClass (topS 26) 6
abbrev s_Links_outs : Stmt := inClass (topS 26) 7
abbrev s_Links_apply : Stmt := inClass (topS 26) 9
abbrev s_Links_apply_at : Stmt := inClass (topS 26) 10
abbrev s_Links_is_sound : Stmt := inClass (topS 26) 13
abbrev s_Links_copy : Stmt := inClass (topS 26) 15
abbrev s_root_of : Stmt := topS 28
abbrev s_has_trees : Stmt := topS 29
abbrev s_parent_of : Stmt := topS 30
abbrev s_parents_of : Stmt := topS 31
abbrev s_followers : Stmt := topS 32
abbrev s_Forest___init__ : Stmt := inClass (topS 33) 0
abbrev s_Forest_read : Stmt := inClass (topS 33) 1
abbrev s_Forest_of : Stmt := inClass (topS 33) 2
abbrev s_Forest_grown : Stmt := inClass (topS 33) 3
abbrev s_Forest_after : Stmt := inClass (topS 33) 4
abbrev s_Forest___len__ : Stmt := inClass (topS 33) 5
abbrev s_Forest___contains__ : Stmt := inClass (topS 33) 6
abbrev s_Forest___str__ : Stmt := inClass (topS 33) 7
abbrev s_Forest_tops : Stmt := inClass (topS 33) 10
abbrev s_Forest_parent : Stmt := inClass (topS 33) 11
abbrev s_Forest_chain : Stmt := inClass (topS 33) 12
abbrev s_Forest_below : Stmt := inClass (topS 33) 13
abbrev s_Forest_unlinked : Stmt := inClass (topS 33) 14
abbrev s_Forest_relinked : Stmt := inClass (topS 33) 15
abbrev s_Forest_ways_back : Stmt := inClass (topS 33) 16
abbrev s_Forest__check_node : Stmt := inClass (topS 33) 17
abbrev s_Forest__check_out : Stmt := inClass (topS 33) 18
abbrev s_law_purse : Stmt := topS 35
abbrev s_law_take : Stmt := topS 36
abbrev s_law_is_integer : Stmt := topS 37
abbrev s_law_unlinked : Stmt := topS 38
abbrev s_law_relinked : Stmt := topS 39
abbrev s_law_is_top : Stmt := topS 40
abbrev s_law_draw : Stmt := topS 41
abbrev s_law_text : Stmt := topS 42
abbrev s_law_left : Stmt := topS 43
abbrev s_law_right : Stmt := topS 44
abbrev s_law_dump : Stmt := topS 45
abbrev s_law_removal : Stmt := topS 46
abbrev s_law_forest : Stmt := topS 47
abbrev s_law_parent : Stmt := topS 48
abbrev s_law_chain : Stmt := topS 49
abbrev s_law_tops : Stmt := topS 50
abbrev s_law_quotient : Stmt := topS 51
abbrev s_law_counted : Stmt := topS 52
abbrev s_law_ways : Stmt := topS 53
abbrev s_law_asked : Stmt := topS 54
abbrev s_law_rows : Stmt := topS 55
abbrev s_law_node : Stmt := topS 56
abbrev s_law_looks : Stmt := topS 57
abbrev s_law_summed : Stmt := topS 58
abbrev s_law_led_down : Stmt := topS 59
abbrev s_law : Stmt := topS 60
/-- the text of BadNode.__init__ -/
def bnS : Stmt := L2.inClass (topS 9) 0
/-! ### the head's own facts -/
def facB (K : Frag) : Bool := He.eqO (nsIn K mainGlobals "factorial") (some (some (.builtin "math.factorial")))
def creadB (x : Str) (K : Frag) : Bool := readsIn K (He.ga K x) (.type "type") && He.eqO (specialIn K (.ref (He.ga K x)) "__getattribute__") (some (some (.builtin "type.__getattribute__")))
def cvalB (x f : Str) (i : Int) (K : Frag) : Bool := match findCls K (.ref (He.ga K x)) (.type "type") f with
  | some (.val u) => He.relB (.int i) u
  | _ => false
def smB (x m : Str) (K : Frag) : Bool := He5.wrapB K (He.ga K x) "staticmethod" "staticmethod.__get__" m && keepIn K (.ref (He5.wf K (He.ga K x) "staticmethod" m))
def cmB (x m : Str) (K : Frag) : Bool := He5.wrapB K (He.ga K x) "classmethod" "classmethod.__get__" m && fnIn K (He5.wf K (He.ga K x) "classmethod" m)
/-- the class of an error, with a dict of its own instances -/
def veB (K : Frag) : Bool := match K.lookup (He.ga K "BadNode") with
  | some ⟨.type "type", _, .cls cd, sl⟩ => (match cd.mro, sl.toList with
    | .ref C' :: bm, [_, _, _, _, some (.builtin n), _] => decide (C' = He.ga K "BadNode") && (decide (n = "ValueError.__new__") && (!cd.hasDel && (cd.hasDict && refsVE bm)))
    | _, _ => false)
  | _ => false
/-- BadNode.__init__, its cell, its code -/
def bnI (K : Frag) : Addr := He.ma K (He.ga K "BadNode") "__init__"
def bnC (K : Frag) : Addr := match K.lookup (bnI K) with
  | some ⟨_, _, .func fd, _⟩ => (match fd.closure with
    | (_, a) :: _ => a
    | _ => 0)
  | _ => 0
def bnCd (K : Frag) : Addr := match K.lookup (bnI K) with
  | some ⟨_, _, .func fd, _⟩ => (match fd.code with
    | .ref a => a
    | _ => 0)
  | _ => 0
abbrev BnR : Type := Option (Str × Str × Arguments × FuncBody × Scope × Addr × List Str × Value × Addr)
def bnRow (K : Frag) : BnR := match K.lookup (bnI K) with
  | some ⟨_, _, .func fd, _⟩ => some (fd.name, fd.qualname, fd.params, fd.body, fd.scope, fd.globals, fd.closure.map (·.1), fd.defaults, fd.builtins)
  | _ => none
def bnVal : BnR := some ("__init__", "BadNode.__init__", L2.defArgs bnS, .stmts (L2.defBody bnS), L2.defScope bnS, mainGlobals, ["__class__"], .none, builtinsNs)
def cdB (K : Frag) : Bool := match K.lookup (bnI K) with
  | some ⟨_, _, .func fd, _⟩ => (match fd.code with
    | .ref _ => codeIn K fd.code "BadNode.__init__"
    | _ => false)
  | _ => false
def flB (K : Frag) : Bool := match K.lookup (bnCd K) with
  | some ⟨_, _, .fields vs, _⟩ => (match (vs[2]? : Option Value) with
    | some (Value.str f _) => decide (("/claim/cut.py" : Str) = f)
    | _ => false)
  | _ => false
def ceB (K : Frag) : Bool := match K.lookup (bnC K) with
  | some ⟨_, _, .cell (some (.ref a)), _⟩ => decide (a = He.ga K "BadNode")
  | _ => false
def b_sa (K : Frag) : Bool := He.eqO (findIn K (.ref (He.ga K "BadNode")) "__setattr__") (some (some (.builtin "object.__setattr__")))
def b_gat (K : Frag) : Bool := He.eqO (findIn K (.ref (He.ga K "BadNode")) "__getattribute__") (some (some (.builtin "BaseException.__getattribute__")))
def b_gg (K : Frag) : Bool := He.eqO (findIn K (.ref (He.ga K "BadNode")) "__getattr__") (some none)
def b_noN (K : Frag) : Bool := He.eqO (findIn K (.ref (He.ga K "BadNode")) "node") (some none)
def b_iC (K : Frag) : Bool := He.eqO (findIn K (.ref (He.ga K "BadNode")) "__init__") (some (some (.ref (bnI K))))
def b_tC (K : Frag) : Bool := decide (typeIn K (.ref (bnI K)) = some (.type "function"))
def b_exC (K : Frag) : Bool := decide (subIn K (.ref (He.ga K "BadNode")) (.type "BaseException") = some true)
def b_tyC (K : Frag) : Bool := decide (typeIn K (.ref (He.ga K "BadNode")) = some (.type "type"))
def b_hdC (K : Frag) : Bool := hasDictIn K (He.ga K "BadNode")
def b_te (K : Frag) : Bool := decide (exmOne K (.ref (He.ga K "BadNode")) (.ref (He.ga K "BadNode")) = some true)
def b_sup (K : Frag) : Bool := He.eqO (ks_superIn K (He.ga K "BadNode") (He.ga K "BadNode") "__init__") (some (some (.builtin "ValueError.__init__")))
def b_subB (K : Frag) : Bool := decide (subIn K (.ref (He.ga K "BadNode")) (.type "ValueError") = some true)
def b_subC (K : Frag) : Bool := decide (mroIn K (He.ga K "BadNode") (.ref (He.ga K "BadNode")) = some true)
def b_tp (K : Frag) : Bool := He.eqO (nsIn K cStatics "thirdparty.any") (some none)
def b_cls_ (K : Frag) : Bool := He.eqO (findIn K (.ref (He.ga K "BadNode")) "__class__") (some (some (.builtin "object.__class__")))
def b_spF (K : Frag) : Bool := He.eqO (specialIn K (.builtin "object.__class__") "__get__") (some (some (.builtin "getset_descriptor.__get__")))
def b_tkF (K : Frag) : Bool := decide (takesIn K (.builtin "object.__class__") = some true)
def b_hm (K : Frag) : Bool := decide (mroIn K (He.ga K "BadNode") (.type "object") = some true)
def b_noLog (K : Frag) : Bool := decide (kitOne K (.ref (He.ga K "BadNode")) (.ref (He.ga K "LogError")) = some false)
def b_isLink (K : Frag) : Bool := decide (kitOne K (.ref (He.ga K "BadNode")) (.ref (He.ga K "LinkError")) = some true)
def b_clF (K : Frag) : Bool := He.eqO (findIn K (.ref (He.ga K "Forest")) "__class__") (some (some (.builtin "object.__class__")))
def b_mrF (K : Frag) : Bool := decide (mroIn K (He.ga K "Forest") (.type "object") = some true)
def b_isF (K : Frag) : Bool := decide (kitOne K (.ref (He.ga K "Forest")) (.ref (He.ga K "Forest")) = some true)
def d_check_size : He5.DefA := ⟨fun K => (He.ga K "check_size"), "check_size", "check_size", defArgs s_check_size, defBody s_check_size, defScope s_check_size, [], []⟩
def d_check_operation : He5.DefA := ⟨fun K => (He.ga K "check_operation"), "check_operation", "check_operation", defArgs s_check_operation, defBody s_check_operation, defScope s_check_operation, [], []⟩
def d_is_number : He5.DefA := ⟨fun K => (He.ga K "is_number"), "is_number", "is_number", defArgs s_is_number, defBody s_is_number, defScope s_is_number, [], []⟩
def d_numbers : He5.DefA := ⟨fun K => (He.ga K "_numbers"), "_numbers", "_numbers", defArgs s_numbers, defBody s_numbers, defScope s_numbers, [], []⟩
def d_read_rights : He5.DefA := ⟨fun K => (He.ga K "_read_rights"), "_read_rights", "_read_rights", defArgs s_read_rights, defBody s_read_rights, defScope s_read_rights, [], []⟩
def d_read_lefts : He5.DefA := ⟨fun K => (He.ga K "_read_lefts"), "_read_lefts", "_read_lefts", defArgs s_read_lefts, defBody s_read_lefts, defScope s_read_lefts, [], []⟩
def d_read_outs : He5.DefA := ⟨fun K => (He.ga K "_read_outs"), "_read_outs", "_read_outs", defArgs s_read_outs, defBody s_read_outs, defScope s_read_outs, [], []⟩
def d_Links___init__ : He5.DefA := ⟨fun K => (He.ma K (He.ga K "Links") "__init__"), "__init__", "Links.__init__", defArgs s_Links___init__, defBody s_Links___init__, defScope s_Links___init__, [], []⟩
def d_Links_built : He5.DefA := ⟨fun K => (He5.wf K (He.ga K "Links") "staticmethod" "built"), "built", "Links.built", defArgs s_Links_built, defBody s_Links_built, defScope s_Links_built, [], []⟩
def d_Links_read : He5.DefA := ⟨fun K => (He5.wf K (He.ga K "Links") "staticmethod" "read"), "read", "Links.read", defArgs s_Links_read, defBody s_Links_read, defScope s_Links_read, [], []⟩
def d_Links_left : He5.DefA := ⟨fun K => (He.ma K (He.ga K "Links") "left"), "left", "Links.left", defArgs s_Links_left, defBody s_Links_left, defScope s_Links_left, [], []⟩
def d_Links_right : He5.DefA := ⟨fun K => (He.ma K (He.ga K "Links") "right"), "right", "Links.right", defArgs s_Links_right, defBody s_Links_right, defScope s_Links_right, [], []⟩
def d_Links_is_out : He5.DefA := ⟨fun K => (He.ma K (He.ga K "Links") "is_out"), "is_out", "Links.is_out", defArgs s_Links_is_out, defBody s_Links_is_out, defScope s_Links_is_out, [], []⟩
def d_Links_outs : He5.DefA := ⟨fun K => (He.ma K (He.ga K "Links") "outs"), "outs", "Links.outs", defArgs s_Links_outs, defBody s_Links_outs, defScope s_Links_outs, [], []⟩
def d_Links_apply : He5.DefA := ⟨fun K => (He.ma K (He.ga K "Links") "apply"), "apply", "Links.apply", defArgs s_Links_apply, defBody s_Links_apply, defScope s_Links_apply, [], []⟩
def d_Links_apply_at : He5.DefA := ⟨fun K => (He.ma K (He.ga K "Links") "apply_at"), "apply_at", "Links.apply_at", defArgs s_Links_apply_at, defBody s_Links_apply_at, defScope s_Links_apply_at, [], []⟩
def d_Links_is_sound : He5.DefA := ⟨fun K => (He.ma K (He.ga K "Links") "is_sound"), "is_sound", "Links.is_sound", defArgs s_Links_is_sound, defBody s_Links_is_sound, defScope s_Links_is_sound, [], []⟩
def d_Links_copy : He5.DefA := ⟨fun K => (He.ma K (He.ga K "Links") "copy"), "copy", "Links.copy", defArgs s_Links_copy, defBody s_Links_copy, defScope s_Links_copy, [], []⟩
def d_root_of : He5.DefA := ⟨fun K => (He.ga K "root_of"), "root_of", "root_of", defArgs s_root_of, defBody s_root_of, defScope s_root_of, [], []⟩
def d_has_trees : He5.DefA := ⟨fun K => (He.ga K "has_trees"), "has_trees", "has_trees", defArgs s_has_trees, defBody s_has_trees, defScope s_has_trees, [], []⟩
def d_parent_of : He5.DefA := ⟨fun K => (He.ga K "parent_of"), "parent_of", "parent_of", defArgs s_parent_of, defBody s_parent_of, defScope s_parent_of, [], []⟩
def d_parents_of : He5.DefA := ⟨fun K => (He.ga K "parents_of"), "parents_of", "parents_of", defArgs s_parents_of, defBody s_parents_of, defScope s_parents_of, [], []⟩
def d_followers : He5.DefA := ⟨fun K => (He.ga K "followers"), "followers", "followers", defArgs s_followers, defBody s_followers, defScope s_followers, [], []⟩
def d_Forest___init__ : He5.DefA := ⟨fun K => (He.ma K (He.ga K "Forest") "__init__"), "__init__", "Forest.__init__", defArgs s_Forest___init__, defBody s_Forest___init__, defScope s_Forest___init__, [], []⟩
def d_Forest_read : He5.DefA := ⟨fun K => (He5.wf K (He.ga K "Forest") "staticmethod" "read"), "read", "Forest.read", defArgs s_Forest_read, defBody s_Forest_read, defScope s_Forest_read, [], []⟩
def d_Forest_of : He5.DefA := ⟨fun K => (He5.wf K (He.ga K "Forest") "staticmethod" "of"), "of", "Forest.of", defArgs s_Forest_of, defBody s_Forest_of, defScope s_Forest_of, [], []⟩
def d_Forest_grown : He5.DefA := ⟨fun K => (He5.wf K (He.ga K "Forest") "staticmethod" "grown"), "grown", "Forest.grown", defArgs s_Forest_grown, defBody s_Forest_grown, defScope s_Forest_grown, [], []⟩
def d_Forest_after : He5.DefA := ⟨fun K => (He5.wf K (He.ga K "Forest") "classmethod" "after"), "after", "Forest.after", defArgs s_Forest_after, defBody s_Forest_after, defScope s_Forest_after, [], []⟩
def d_Forest___len__ : He5.DefA := ⟨fun K => (He.ma K (He.ga K "Forest") "__len__"), "__len__", "Forest.__len__", defArgs s_Forest___len__, defBody s_Forest___len__, defScope s_Forest___len__, [], []⟩
def d_Forest___contains__ : He5.DefA := ⟨fun K => (He.ma K (He.ga K "Forest") "__contains__"), "__contains__", "Forest.__contains__", defArgs s_Forest___contains__, defBody s_Forest___contains__, defScope s_Forest___contains__, [], []⟩
def d_Forest___str__ : He5.DefA := ⟨fun K => (He.ma K (He.ga K "Forest") "__str__"), "__str__", "Forest.__str__", defArgs s_Forest___str__, defBody s_Forest___str__, defScope s_Forest___str__, [], []⟩
def d_Forest_tops : He5.DefA := ⟨fun K => (He.ma K (He.ga K "Forest") "tops"), "tops", "Forest.tops", defArgs s_Forest_tops, defBody s_Forest_tops, defScope s_Forest_tops, [], []⟩
def d_Forest_parent : He5.DefA := ⟨fun K => (He.ma K (He.ga K "Forest") "parent"), "parent", "Forest.parent", defArgs s_Forest_parent, defBody s_Forest_parent, defScope s_Forest_parent, [], []⟩
def d_Forest_chain : He5.DefA := ⟨fun K => (He.ma K (He.ga K "Forest") "chain"), "chain", "Forest.chain", defArgs s_Forest_chain, defBody s_Forest_chain, defScope s_Forest_chain, [], []⟩
def d_Forest_below : He5.DefA := ⟨fun K => (He.ma K (He.ga K "Forest") "below"), "below", "Forest.below", defArgs s_Forest_below, defBody s_Forest_below, defScope s_Forest_below, [], []⟩
def d_Forest_unlinked : He5.DefA := ⟨fun K => (He.ma K (He.ga K "Forest") "unlinked"), "unlinked", "Forest.unlinked", defArgs s_Forest_unlinked, defBody s_Forest_unlinked, defScope s_Forest_unlinked, [], []⟩
def d_Forest_relinked : He5.DefA := ⟨fun K => (He.ma K (He.ga K "Forest") "relinked"), "relinked", "Forest.relinked", defArgs s_Forest_relinked, defBody s_Forest_relinked, defScope s_Forest_relinked, [], []⟩
def d_Forest_ways_back : He5.DefA := ⟨fun K => (He.ma K (He.ga K "Forest") "ways_back"), "ways_back", "Forest.ways_back", defArgs s_Forest_ways_back, defBody s_Forest_ways_back, defScope s_Forest_ways_back, [], []⟩
def d_Forest__check_node : He5.DefA := ⟨fun K => (He.ma K (He.ga K "Forest") "_check_node"), "_check_node", "Forest._check_node", defArgs s_Forest__check_node, defBody s_Forest__check_node, defScope s_Forest__check_node, [], []⟩
def d_Forest__check_out : He5.DefA := ⟨fun K => (He.ma K (He.ga K "Forest") "_check_out"), "_check_out", "Forest._check_out", defArgs s_Forest__check_out, defBody s_Forest__check_out, defScope s_Forest__check_out, [], []⟩
def d_law_purse : He5.DefA := ⟨fun K => (He.ga K "_law_purse"), "_law_purse", "_law_purse", defArgs s_law_purse, defBody s_law_purse, defScope s_law_purse, [], []⟩
def d_law_take : He5.DefA := ⟨fun K => (He.ga K "_law_take"), "_law_take", "_law_take", defArgs s_law_take, defBody s_law_take, defScope s_law_take, [], []⟩
def d_law_is_integer : He5.DefA := ⟨fun K => (He.ga K "_law_is_integer"), "_law_is_integer", "_law_is_integer", defArgs s_law_is_integer, defBody s_law_is_integer, defScope s_law_is_integer, [], []⟩
def d_law_unlinked : He5.DefA := ⟨fun K => (He.ga K "_law_unlinked"), "_law_unlinked", "_law_unlinked", defArgs s_law_unlinked, defBody s_law_unlinked, defScope s_law_unlinked, [], []⟩
def d_law_relinked : He5.DefA := ⟨fun K => (He.ga K "_law_relinked"), "_law_relinked", "_law_relinked", defArgs s_law_relinked, defBody s_law_relinked, defScope s_law_relinked, [], []⟩
def d_law_is_top : He5.DefA := ⟨fun K => (He.ga K "_law_is_top"), "_law_is_top", "_law_is_top", defArgs s_law_is_top, defBody s_law_is_top, defScope s_law_is_top, [], []⟩
def d_law_draw : He5.DefA := ⟨fun K => (He.ga K "_law_draw"), "_law_draw", "_law_draw", defArgs s_law_draw, defBody s_law_draw, defScope s_law_draw, [], []⟩
def d_law_text : He5.DefA := ⟨fun K => (He.ga K "_law_text"), "_law_text", "_law_text", defArgs s_law_text, defBody s_law_text, defScope s_law_text, [], []⟩
def d_law_left : He5.DefA := ⟨fun K => (He.ga K "_law_left"), "_law_left", "_law_left", defArgs s_law_left, defBody s_law_left, defScope s_law_left, [], []⟩
def d_law_right : He5.DefA := ⟨fun K => (He.ga K "_law_right"), "_law_right", "_law_right", defArgs s_law_right, defBody s_law_right, defScope s_law_right, [], []⟩
def d_law_dump : He5.DefA := ⟨fun K => (He.ga K "_law_dump"), "_law_dump", "_law_dump", defArgs s_law_dump, defBody s_law_dump, defScope s_law_dump, [], []⟩
def d_law_removal : He5.DefA := ⟨fun K => (He.ga K "_law_removal"), "_law_removal", "_law_removal", defArgs s_law_removal, defBody s_law_removal, defScope s_law_removal, [], []⟩
def d_law_forest : He5.DefA := ⟨fun K => (He.ga K "_law_forest"), "_law_forest", "_law_forest", defArgs s_law_forest, defBody s_law_forest, defScope s_law_forest, [], []⟩
def d_law_parent : He5.DefA := ⟨fun K => (He.ga K "_law_parent"), "_law_parent", "_law_parent", defArgs s_law_parent, defBody s_law_parent, defScope s_law_parent, [], []⟩
def d_law_chain : He5.DefA := ⟨fun K => (He.ga K "_law_chain"), "_law_chain", "_law_chain", defArgs s_law_chain, defBody s_law_chain, defScope s_law_chain, [], []⟩
def d_law_tops : He5.DefA := ⟨fun K => (He.ga K "_law_tops"), "_law_tops", "_law_tops", defArgs s_law_tops, defBody s_law_tops, defScope s_law_tops, [], []⟩
def d_law_quotient : He5.DefA := ⟨fun K => (He.ga K "_law_quotient"), "_law_quotient", "_law_quotient", defArgs s_law_quotient, defBody s_law_quotient, defScope s_law_quotient, [], []⟩
def d_law_counted : He5.DefA := ⟨fun K => (He.ga K "_law_counted"), "_law_counted", "_law_counted", defArgs s_law_counted, defBody s_law_counted, defScope s_law_counted, [], []⟩
def d_law_ways : He5.DefA := ⟨fun K => (He.ga K "_law_ways"), "_law_ways", "_law_ways", defArgs s_law_ways, defBody s_law_ways, defScope s_law_ways, [], []⟩
def d_law_asked : He5.DefA := ⟨fun K => (He.ga K "_law_asked"), "_law_asked", "_law_asked", defArgs s_law_asked, defBody s_law_asked, defScope s_law_asked, [], []⟩
def d_law_rows : He5.DefA := ⟨fun K => (He.ga K "_law_rows"), "_law_rows", "_law_rows", defArgs s_law_rows, defBody s_law_rows, defScope s_law_rows, [], []⟩
def d_law_node : He5.DefA := ⟨fun K => (He.ga K "_law_node"), "_law_node", "_law_node", defArgs s_law_node, defBody s_law_node, defScope s_law_node, [], []⟩
def d_law_looks : He5.DefA := ⟨fun K => (He.ga K "_law_looks"), "_law_looks", "_law_looks", defArgs s_law_looks, defBody s_law_looks, defScope s_law_looks, [], []⟩
def d_law_summed : He5.DefA := ⟨fun K => (He.ga K "_law_summed"), "_law_summed", "_law_summed", defArgs s_law_summed, defBody s_law_summed, defScope s_law_summed, [], []⟩
def d_law_led_down : He5.DefA := ⟨fun K => (He.ga K "_law_led_down"), "_law_led_down", "_law_led_down", defArgs s_law_led_down, defBody s_law_led_down, defScope s_law_led_down, [], []⟩
def d_law : He5.DefA := ⟨fun K => (He.ga K "law"), "law", "law", defArgs s_law, defBody s_law, defScope s_law, [], []⟩
def hfa0 : List He.Fa := [.free "len", .free "abs", .free "max", .free "min", .free "int", .free "bool", .free "list", .free "str", .free "sum", .free "sorted", .free "isinstance", .free "range", .free "enumerate", .int "MOST_NODES" 60, .int "MOST_DIGITS" 9, .int "PARTS" 3, .glo "Links", .cls "Links", .mkr "Links", .noat "Links" "size"]
def hfa1 : List He.Fa := [.noat "Links" "_lefts", .noat "Links" "_rights", .noat "Links" "_flags", .glo "Forest", .cls "Forest", .mkr "Forest", .noat "Forest" "size", .noat "Forest" "_links", .noat "Forest" "_parents", .glo "check_size", .keep "check_size", .glo "check_operation", .keep "check_operation", .glo "is_number", .keep "is_number", .glo "_numbers", .keep "_numbers", .glo "_read_rights", .keep "_read_rights", .glo "_read_lefts"]
def hfa2 : List He.Fa := [.keep "_read_lefts", .glo "_read_outs", .keep "_read_outs", .meth "Links" "left", .meth "Links" "right", .meth "Links" "is_out", .meth "Links" "outs", .meth "Links" "apply", .meth "Links" "apply_at", .meth "Links" "is_sound", .meth "Links" "copy", .glo "root_of", .keep "root_of", .glo "has_trees", .keep "has_trees", .glo "parent_of", .keep "parent_of", .glo "parents_of", .keep "parents_of", .glo "followers"]
def hfa3 : List He.Fa := [.keep "followers", .meth "Forest" "__len__", .meth "Forest" "__contains__", .meth "Forest" "__str__", .meth "Forest" "tops", .meth "Forest" "parent", .meth "Forest" "chain", .meth "Forest" "below", .meth "Forest" "unlinked", .meth "Forest" "relinked", .meth "Forest" "ways_back", .meth "Forest" "_check_node", .meth "Forest" "_check_out", .glo "_law_purse", .keep "_law_purse", .glo "_law_take", .keep "_law_take", .glo "_law_is_integer", .keep "_law_is_integer", .glo "_law_unlinked"]
def hfa4 : List He.Fa := [.keep "_law_unlinked", .glo "_law_relinked", .keep "_law_relinked", .glo "_law_is_top", .keep "_law_is_top", .glo "_law_draw", .keep "_law_draw", .glo "_law_text", .keep "_law_text", .glo "_law_left", .keep "_law_left", .glo "_law_right", .keep "_law_right", .glo "_law_dump", .keep "_law_dump", .glo "_law_removal", .keep "_law_removal", .glo "_law_forest", .keep "_law_forest", .glo "_law_parent"]
def hfa5 : List He.Fa := [.keep "_law_parent", .glo "_law_chain", .keep "_law_chain", .glo "_law_tops", .keep "_law_tops", .glo "_law_quotient", .keep "_law_quotient", .glo "_law_counted", .keep "_law_counted", .glo "_law_ways", .keep "_law_ways", .glo "_law_asked", .keep "_law_asked", .glo "_law_rows", .keep "_law_rows", .glo "_law_node", .keep "_law_node", .glo "_law_looks", .keep "_law_looks", .glo "_law_summed"]
def hfa6 : List He.Fa := [.keep "_law_summed", .glo "_law_led_down", .keep "_law_led_down", .glo "law", .keep "law", .glo "BadNode", .glo "LogError", .glo "LinkError", .keep "BadNode", .free "super"]
def hfa : List He.Fa := hfa0 ++ hfa1 ++ hfa2 ++ hfa3 ++ hfa4 ++ hfa5 ++ hfa6
def hfn0 : List He5.DefA := [d_check_size, d_check_operation, d_is_number, d_numbers, d_read_rights, d_read_lefts, d_read_outs, d_Links___init__, d_Links_built, d_Links_read, d_Links_left, d_Links_right, d_Links_is_out, d_Links_outs, d_Links_apply, d_Links_apply_at, d_Links_is_sound, d_Links_copy, d_root_of, d_has_trees]
def hfn1 : List He5.DefA := [d_parent_of, d_parents_of, d_followers, d_Forest___init__, d_Forest_read, d_Forest_of, d_Forest_grown, d_Forest_after, d_Forest___len__, d_Forest___contains__, d_Forest___str__, d_Forest_tops, d_Forest_parent, d_Forest_chain, d_Forest_below, d_Forest_unlinked, d_Forest_relinked, d_Forest_ways_back, d_Forest__check_node, d_Forest__check_out]
def hfn2 : List He5.DefA := [d_law_purse, d_law_take, d_law_is_integer, d_law_unlinked, d_law_relinked, d_law_is_top, d_law_draw, d_law_text, d_law_left, d_law_right, d_law_dump, d_law_removal, d_law_forest, d_law_parent, d_law_chain, d_law_tops, d_law_quotient, d_law_counted, d_law_ways, d_law_asked]
def hfn3 : List He5.DefA := [d_law_rows, d_law_node, d_law_looks, d_law_summed, d_law_led_down, d_law]
def hfn : List He5.DefA := hfn0 ++ hfn1 ++ hfn2 ++ hfn3
def hex0 : List (Frag → Bool) := [facB, (creadB "Links"), (cvalB "Links" "MOST" 60), (creadB "Forest"), (smB "Links" "built"), (smB "Links" "read"), (smB "Forest" "read"), (smB "Forest" "of"), (smB "Forest" "grown"), (cmB "Forest" "after"), veB, cdB, flB, ceB, b_sa, b_gat, b_gg, b_noN, b_iC, b_tC]
def hex1 : List (Frag → Bool) := [b_exC, b_tyC, b_hdC, b_te, b_sup, b_subB, b_subC, b_tp, b_cls_, b_spF, b_tkF, b_hm, b_noLog, b_isLink, b_clF, b_mrF, b_isF]
def hex : List (Frag → Bool) := hex0 ++ hex1
/-! ### the Hook -/
def refsX (o : Obj) : List Addr := match o.data with
  | .seq its _ => its.toList.flatMap He.refV
  | .dict es _ => es.toList.flatMap fun e => He.refV e.val
  | .func fd => He.refV fd.code ++ fd.closure.map (·.2)
  | .cls cd => [cd.ns]
  | .fields vs => vs.toList.flatMap He.refV
  | _ => []
def refsG (g : Addr → Option Obj) (a : Addr) : List Addr := match g a with
  | some o => refsX o
  | none => []
/-- evaluate, then go on -/
def frL {α : Type} : List Addr → (List Addr → α) → α
  | [], k => k []
  | a :: r, k => HandSHeadRun.frNat a fun a => frL r fun r => k (a :: r)
theorem frL_eq {α : Type} : ∀ (l : List Addr) (k : List Addr → α), frL l k = k l
  | [], _ => rfl
  | a :: r, k => by
    unfold frL
    rw [HandSHeadRun.frNat_eq, frL_eq r]
def frK {α : Type} (g : Addr → Option Obj) : List Addr → (Frag → α) → α
  | [], k => k []
  | a :: r, k => match g a with
    | some o => frK g r fun K => k ((a, o) :: K)
    | none => frK g r k
theorem frK_eq {α : Type} {g : Addr → Option Obj} : ∀ (l : List Addr) (k : Frag → α), frK g l k = k (He.frG g l)
  | [], _ => rfl
  | a :: r, k => by
    unfold frK He.frG
    rw [List.filterMap_cons]
    cases e : g a with
    | none => exact frK_eq r k
    | some o => exact frK_eq r fun K => k ((a, o) :: K)
/-- n levels from these on -/
def lvl {α : Type} (g : Addr → Option Obj) : Nat → List Addr → List Addr → (List Addr → α) → α
  | 0, all, _, k => k all
  | n + 1, all, new, k => frL (new.flatMap (refsG g)) fun z => lvl g n (all ++ z) z k
def asOf (g : Addr → Option Obj) : Nat → List Addr → List Addr → List Addr
  | 0, all, _ => all
  | n + 1, all, new => asOf g n (all ++ new.flatMap (refsG g)) (new.flatMap (refsG g))
theorem lvl_eq {α : Type} {g : Addr → Option Obj} : ∀ (n : Nat) (all new : List Addr) (k : List Addr → α), lvl g n all new k = k (asOf g n all new)
  | 0, _, _, _ => rfl
  | n + 1, all, new, k => by
    unfold lvl asOf
    rw [frL_eq]
    exact lvl_eq n _ _ k
abbrev Al : Type := Bool × List He5.FnW × BnR
def obsK (K : Frag) : Al := ((hfa.all fun f => f.ok K) && ((hfn.all fun d => d.ok K) && hex.all fun f => f K), hfn.map fun d => He5.fnA K (d.at_ K), bnRow K)
def valK : Al := (true, hfn.map He5.DefA.val, bnVal)
def SaysK (K : Frag) : Prop := obsK K = valK
def obsKG (g : Addr → Option Obj) : Al := lvl g 5 [cStatics, mainGlobals] [mainGlobals] fun as => frL as fun as => frK g as obsK
theorem obsKG_of (g : Addr → Option Obj) : obsKG g = obsK (He.frG g (asOf g 5 [cStatics, mainGlobals] [mainGlobals])) := by
  unfold obsKG
  rw [lvl_eq, frL_eq, frK_eq]
def hookK : Hook where
  α := Al
  obs := fun s => obsKG s.heap.get?
  val := fun _ => valK
  says := fun _ h => ∃ K : Frag, K.In h ∧ SaysK K
  of := fun _ s e => ⟨_, He.frG_in, (obsKG_of s.heap.get?).symm.trans e⟩
  keeps := fun _ _ _ ⟨K, hK, c⟩ k => ⟨K, Frag.In.keeps hK k, c⟩
theorem obsKG_eq {g : Addr → Option Obj} {s : Shared} (h : ∀ a, g a = s.heap.get? a) : obsKG g = hookK.obs s := by
  have e : g = s.heap.get? := funext h
  rw [e] <;> rfl
/-! ### the run -/
abbrev hR : OpenRow := OpenLaw.row PySem.Challenge.rw_latelink_k28_whole_trees_and_ways_back
abbrev hQ : Program := view hR.prog [0, 60]
def hnm0 : List Str := ["factorial", "_wall", "LinkError", "LogError", "BadOperation", "Illegal", "Refused", "BadSize", "BadNode", "BadText"]
def hnm1 : List Str := ["BadDump", "BadRemoval", "NotChecked", "MOST_NODES", "MOST_DIGITS", "check_size", "check_operation", "is_number", "PARTS", "_numbers"]
def hnm2 : List Str := ["_read_rights", "_read_lefts", "_read_outs", "Links", "root_of", "has_trees", "parent_of", "parents_of", "followers", "Forest"]
def hnm3 : List Str := ["_law_purse", "_law_take", "_law_is_integer", "_law_unlinked", "_law_relinked", "_law_is_top", "_law_draw", "_law_text", "_law_left", "_law_right"]
def hnm4 : List Str := ["_law_dump", "_law_removal", "_law_forest", "_law_parent", "_law_chain", "_law_tops", "_law_quotient", "_law_counted", "_law_ways", "_law_asked"]
def hnm5 : List Str := ["_law_rows", "_law_node", "_law_looks", "_law_summed", "_law_led_down"]
def hnames : List Str := hnm0 ++ hnm1 ++ hnm2 ++ hnm3 ++ hnm4 ++ hnm5
def hob (s : SharedT) : Al := obsKG (HandSHeadRun.getT s)
theorem hob_eq (s : SharedT) : hob s = hookK.obs s.abs := obsKG_eq (HandSHeadRun.getT_eq s)
end Lw
set_option Elab.async false
set_option linter.all false
set_option maxRecDepth 100000
set_option maxHeartbeats 0
namespace Lw
open PySem PySem.Spec PySem.Calls PyProof.Rows L2 PySem.HandSPX PySem.W
theorem hrun (w : World) : HandSHeadRun.RunEqI hR hQ hookK hob 8000 hnames w := by
  unfold HandSHeadRun.RunEqI
  kernel_rfl
end Lw
set_option Elab.async false
set_option linter.all false
set_option maxRecDepth 100000
set_option maxHeartbeats 4000000
namespace Lw
open PySem PySem.Spec PyProof.Rows L2
section
variable {X : Cx} {CX : CXT} {pins : List (Addr × Obj)} {σ : L2.St} {H : Hp} {s : Shared} {a C dx p g : Addr} {n : Nat} {sp : Sp} {E : XK}
/-! ### special methods of one's own -/
/-- len(x), x an instance -/
def rLenOwn (C : Addr) (sp : Sp) (E : XK) : List V → Hp → VK → Prop := fun xs H Q => ∃ a dx fs, xs = [V.ref a] ∧ H a = some (.ins C dx fs) ∧ sp [.ref a] H (fun z H' => ∃ i : Nat, z = .int (i : Int) ∧ i ≤ 100000 ∧ Q z H') E
theorem call_lenOwn (hs : PySem.W.findIn X.K (.ref C) "__len__" = some (some (.ref g))) (hf : PySem.W.isFn X.K (.ref g) = true) (F : FnR X.prog X.w X.K X.mg X.base CX n g sp) (hr : Room (n + 1) X.A) (hx : Passes CX X E) : CallR X (.builtin "len") (rLenOwn C sp E) := by
  intro pins s σ H xs us Q I r h
  obtain ⟨a, dx, fs, rfl, ha, q⟩ := h
  obtain ⟨u, rfl, ru⟩ := r.one
  cases (show u = Value.ref a from ru)
  obtain ⟨mA, J, _⟩ := ins_get I.hok ha
  obtain ⟨od, J, _⟩ := J.look
  obtain ⟨m, hF⟩ := I.fr
  have hr2 : Room n X.A.in1 := Room.in1 hr
  refine PySem.W.len_K hF I.ok.mod.kin J hs hf (wpAny_mono (wpAny_call (SlX.run_at (us := [.ref a]) (ws := [.ref a]) F hr2 I.env0.in1 hx I (.cons rfl .nil) q)) (fun w s' z => ?_) fun _ _ x => x)
  obtain ⟨z', H', I', rz, i, ei, hi, qz⟩ := z
  subst ei
  obtain ⟨t, e⟩ := (show ∃ t, w = Value.int (i : Int) t from rz)
  cases e
  exact ⟨⟨by omega, by omega⟩, .int (i : Int), H', I'.tok _, ⟨_, rfl⟩, qz⟩
/-- v in x, v not in x, x an instance -/
def rInOwn (neg : Bool) (C : Addr) (sp : Sp) (E : XK) : R2 := fun x y H Q => ∃ a dx fs, y = .ref a ∧ H a = some (.ins C dx fs) ∧ sp [.ref a, x] H (fun z H' => ∃ b, z = .bl b ∧ Q (.bl (if neg then !b else b)) H') E
theorem op_inOwn (hs : PySem.W.findIn X.K (.ref C) "__contains__" = some (some (.ref g))) (hf : PySem.W.isFn X.K (.ref g) = true) (F : FnR X.prog X.w X.K X.mg X.base CX n g sp) (hr : Room n X.A) (hx : Passes CX X E) : OpR X (compareOp .In) (rInOwn false C sp E) := by
  intro pins s σ H x y v u Q I rx ry h
  obtain ⟨a, dx, fs, rfl, ha, q⟩ := h
  cases (show u = Value.ref a from ry)
  obtain ⟨mA, J, _⟩ := ins_get I.hok ha
  obtain ⟨od, J, _⟩ := J.look
  obtain ⟨m, hF⟩ := I.fr
  refine PySem.W.in_K hF I.ok.mod.kin J hs hf (wpAny_mono (wpAny_call (run_fnR (us := [.ref a, v]) (vs := [.ref a, x]) F hr hx I (.cons rfl (.cons rx .nil)) q)) (fun w s' z => ?_) fun _ _ x => x)
  obtain ⟨z', H', I', rz, b, eb, qz⟩ := z
  subst eb
  cases (show w = Value.bool b from rz)
  exact wpAny_truthy_bool ⟨.bl b, H', I', rfl, qz⟩
theorem op_notInOwn (hs : PySem.W.findIn X.K (.ref C) "__contains__" = some (some (.ref g))) (hf : PySem.W.isFn X.K (.ref g) = true) (F : FnR X.prog X.w X.K X.mg X.base CX n g sp) (hr : Room n X.A) (hx : Passes CX X E) : OpR X (compareOp .NotIn) (rInOwn true C sp E) := by
  intro pins s σ H x y v u Q I rx ry h
  obtain ⟨a, dx, fs, rfl, ha, q⟩ := h
  cases (show u = Value.ref a from ry)
  obtain ⟨mA, J, _⟩ := ins_get I.hok ha
  obtain ⟨od, J, _⟩ := J.look
  obtain ⟨m, hF⟩ := I.fr
  refine PySem.W.notIn_K hF I.ok.mod.kin J hs hf (wpAny_mono (wpAny_call (run_fnR (us := [.ref a, v]) (vs := [.ref a, x]) F hr hx I (.cons rfl (.cons rx .nil)) q)) (fun w s' z => ?_) fun _ _ x => x)
  obtain ⟨z', H', I', rz, b, eb, qz⟩ := z
  subst eb
  cases (show w = Value.bool b from rz)
  exact wpAny_truthy_bool ⟨.bl (!b), H', I', rfl, qz⟩
/-- str(x), x an instance -/
def rStrOwn (C : Addr) (sp : Sp) (E : XK) : List V → Hp → VK → Prop := fun xs H Q => ∃ a dx fs, xs = [V.ref a] ∧ H a = some (.ins C dx fs) ∧ sp [.ref a] H (fun z H' => ∃ x : Str, z = .str x ∧ Q z H') E
theorem call_strOwn (hs : PySem.W.findIn X.K (.ref C) "__str__" = some (some (.ref g))) (hf : PySem.W.isFn X.K (.ref g) = true) (F : FnR X.prog X.w X.K X.mg X.base CX n g sp) (hr : Room (n + 2) X.A) (hx : Passes CX X E) : CallR X (.type "str") (rStrOwn C sp E) := by
  intro pins s σ H xs us Q I r h
  obtain ⟨a, dx, fs, rfl, ha, q⟩ := h
  obtain ⟨u, rfl, ru⟩ := r.one
  cases (show u = Value.ref a from ru)
  obtain ⟨mA, J, _⟩ := ins_get I.hok ha
  obtain ⟨od, J, _⟩ := J.look
  have hr2 : Room n X.A.in1.in1 := (show Room (n + 1) X.A.in1 from Room.in1 hr).in1
  refine PySem.W.kso_call hr2.units0 I.kIn J hs hf (wpAny_mono (wpAny_call (SlX.run_at (us := [.ref a]) (ws := [.ref a]) F hr2 I.env0.in1.in1 hx I (.cons rfl .nil) q)) (fun w s' z => ?_) fun _ _ x => x)
  obtain ⟨z', H', I', rz, x, ex, qz⟩ := z
  subst ex
  obtain ⟨t, e⟩ := (show ∃ t, w = Value.str x t from rz)
  cases e
  exact ⟨.str x, H', I', ⟨_, rfl⟩, qz⟩
end
/-! ### static methods of a class -/
structure SMet (K : PySem.W.Frag) (C : Addr) (mc : Value) (m : Str) (p g : Addr) : Prop where
  at_ : PySem.W.findCls K (.ref C) mc m = some (.get (.builtin "staticmethod.__get__") (.ref p) .none (.ref C))
  rc : ∃ rest, PySem.W.recIn K p "staticmethod" = some (.ref g :: rest)
  kp : PySem.W.keepIn K (.ref g) = true
def tSMeth (C : Addr) (sp : Sp) (E : XK) (ta : TE) (t : TA) : TE := fun σ H Q => ta σ H fun x H1 => x = .ref C ∧ t σ H1 fun vs H2 => sp vs H2 Q E
section
variable {X : Cx} {CX : CXT} {k : Nat} {C p g : Addr} {mc : Value} {sp : Sp} {E : XK} {o e : Expr} {es : List Expr} {f m : Str} {pos apos : Pos} {ta : TE} {t : TA} {pl : Sem Bool}
theorem pe_smeth (he : PE X o ta) (r : ClX.CRead X.K C mc) (c : SMet X.K C mc m p g) (F : FnR X.prog X.w X.K X.mg X.base CX k g sp) (hr : Room k X.A) (hx : Passes CX X E) (ha : PA X (e :: es) t)
    (hst : starEach (e :: es) X.env = (false, eval e X.env) :: starEach es X.env := by rfl) (hpl : (backTo pos (starEach es X.env)).any (·.1) = false := by rfl)
    (ht : eval (.Call (.Attribute o m apos) (e :: es) [] pos) X.env = (do
      let ov ← eval o X.env
      standAt apos.atName
      let (f, first) ← holding [ov] (getMethod ov m pl)
      callWith pos f first (backTo pos (starEach (e :: es) X.env)) (backToKw pos (keywordEach [] X.env))) := by rfl) :
    PE X (.Call (.Attribute o m apos) (e :: es) [] pos) (tSMeth C sp E ta t) := by
  refine ⟨fun pins s σ H Q I h => ?_⟩
  refine PySem.W.methodCall_KW (pl := pl) (thn (he.run pins s σ H _ I h) fun u s1 ⟨x, H1, I1, rx, ex, q⟩ => ?_) ht
  subst ex
  obtain rfl : u = Value.ref C := rx
  obtain ⟨rest, hp⟩ := c.rc
  refine PySem.W.method_cls I1.kIn r.ga (PySem.W.cls_bind I1.kIn r.rd c.at_ (wpAny_call (PySem.W.sm_get (s := { s1 with toks := s1.toks + 1 }) I1.kIn hp (PySem.W.handed_on rfl ?_))))
  refine PySem.W.callWith_K (h₀ := X.base) I1.ok.mod.kin c.kp (thn (ha.run pos pins _ σ H1 _ (I1.tok _) q) fun us s2 ⟨vs, H2, I2, rv, q2⟩ => ⟨I2.kIn, ?_⟩) hst hpl
  exact wpAny_call (run_fnR F hr hx I2 rv q2)
/-! ### factorial -/
def rFact : List V → Hp → VK → Prop := fun vs H Q => ∃ n : Nat, vs = [.int (n : Int)] ∧ n ≤ 20000 ∧ Q (.int ((Builtin.Math.factorialNat n : Nat) : Int)) H
theorem cr_fact : CallR X (.builtin "math.factorial") rFact := by
  intro pins s σ H vs us Q I r h
  obtain ⟨n, rfl, hn, q⟩ := h
  obtain ⟨u, rfl, t, rfl⟩ := r.one
  refine PySem.W.mc_factorial (by omega) (by omega) fun _ => ?_
  rw [Int.toNat_natCast]
  exact ⟨.int _, H, I.tok _, ⟨_, rfl⟩, q⟩
end
end Lw
set_option Elab.async false
set_option linter.all false
set_option maxRecDepth 100000
set_option maxHeartbeats 4000000
namespace Lw
open PySem PySem.Spec PyProof.Rows L2
/-! ### a sign * n -/
def repS (c n : Nat) : Str := ⟨(List.replicate n c).toArray⟩
theorem fold_rep (c : Nat) : ∀ (n : Nat) (a : Array Nat), (List.replicate n #[c]).foldl (· ++ ·) a = a ++ (List.replicate n c).toArray
  | 0, a => by simp
  | n + 1, a => by
    rw [List.replicate_succ, List.foldl_cons, fold_rep c n, List.replicate_succ]
    apply Array.toList_inj.mp
    simp only [Array.toList_append, List.append_assoc]
    rfl
def rMulS : R2 := fun x y H Q => ∃ c n : Nat, x = .str ⟨#[c]⟩ ∧ y = .int (n : Int) ∧ n ≤ 100000 ∧ Q (.str (repS c n)) H
theorem op_mulS {X : Cx} : OpR X (binaryOp .Mult) rMulS := by
  intro pins s σ H x y v u Q I rx ry h
  obtain ⟨c, n, rfl, rfl, hn, q⟩ := h
  obtain ⟨t, rfl⟩ := rx
  obtain ⟨k, rfl⟩ := ry
  have hlen : (⟨#[c]⟩ : Str).length = 1 := rfl
  refine PySem.P.mul_str ?_ (fun h1 _ => ?_) (fun h1 _ => ?_) ?_
  · have h1 : ¬ ((n : Int) < -(2 ^ 63 : Int)) := by omega
    have h2 : ¬ ((n : Int) ≥ 2 ^ 63) := by omega
    rw [decide_eq_false h1, decide_eq_false h2]; rfl
  · rw [hlen]
    have h2 : ((2 ^ 63 - 1 : Int) / (n : Int)) ≥ 1 := by
      have : (1 : Int) * n ≤ 2 ^ 63 - 1 := by omega
      exact (Int.le_ediv_iff_mul_le (by omega)).mpr this
    omega
  · rw [hlen]
    unfold Builtin.Str.tooLong
    rw [sizeLine_eq]
    simp only [Int.toNat_natCast, Nat.one_mul, decide_eq_false_iff_not]
    omega
  · by_cases h1 : (n : Int) < 1
    · rw [if_pos h1]
      have e : n = 0 := by omega
      subst e
      exact ⟨by decide, .str (repS c 0), H, I.tok _, ⟨_, rfl⟩, q⟩
    · rw [if_neg h1]
      by_cases h2 : ((n : Int) == 1 || (⟨#[c]⟩ : Str).length == 0) = true
      · rw [if_pos h2]
        have e : n = 1 := by
          rw [hlen] at h2
          simp at h2
          omega
        subst e
        exact ⟨.str (repS c 1), H, I, ⟨_, rfl⟩, q⟩
      · rw [if_neg h2]
        have e : (⟨(List.replicate (n : Int).toNat (⟨#[c]⟩ : Str).cps).foldl (· ++ ·) #[]⟩ : Str) = repS c n := by
          unfold repS
          rw [Int.toNat_natCast, fold_rep]
          simp
        rw [e]
        refine ⟨?_, .str (repS c n), H, I.tok _, ⟨_, rfl⟩, q⟩
        show (repS c n).cps.size ≤ sizeLine
        unfold repS
        rw [sizeLine_eq]
        simp only [List.size_toArray, List.length_replicate]
        omega
/-! ### enumerate(text) -/
def Ites (x : Str) : It := ⟨fun i _ => i < x.cps.size, fun i H v H' => ∃ T c, v = .ref T ∧ H T = none ∧ x.cps[i]? = some c ∧ H' = upd H T (.tup [.int (i : Nat), .str ⟨#[c]⟩]), fun i _ => x.cps.size ≤ i⟩
theorem drawsS {prog : Program} {w : World} {A : Around} (hh : A.handled = none) (it : Addr) (x : Str) (t : Tok) :
    Draws prog w A it [it] x.cps.size (fun i v => ∃ c u, x.cps[i]? = some c ∧ v = Value.str ⟨#[c]⟩ u) (fun i h => h.IsStrIter it (strIterType x) x t i) := by
  cases ha : x.cps.all (· < 128)
  · have e : strIterType x = "str_iterator" := by simp [strIterType, ha]
    rw [e]
    exact Draws.strWide hh it x t
  · have e : strIterType x = "str_ascii_iterator" := by simp [strIterType, ha]
    rw [e]
    exact Draws.strAscii hh it x t
theorem turn_enumS {P : Program} {w : World} {K : PySem.W.Frag} {elts : List Expr} {kk : Nat} {tpos : Pos} (x : Str) (t : Tok) (e it : Addr) :
    Turn P w K (.Tuple elts kk tpos) (Ites x) [e, it] e (fun i h => (∃ old, IsEnum h e it ((i : Nat) : Int) old) ∧ h.IsStrIter it (strIterType x) x t i ∧ e ≠ it) where
  mem := by simp
  obj := fun i h st b hb => by
    obtain ⟨⟨old, he⟩, ⟨o, ho, hc, hd⟩, _⟩ := st
    have e' : b = e ∨ b = it := by simpa using hb
    rcases e' with z | z
    · rw [z]; exact ⟨_, he, fun v q => nomatch q⟩
    · rw [z]; exact ⟨o, ho, fun v q => by rw [hd] at q; cases q⟩
  keep := fun i h h' st k => let ⟨⟨old, he⟩, ⟨o, ho, r⟩, hne⟩ := st; ⟨⟨old, k e (by simp) _ he⟩, ⟨o, k it (by simp) o ho, r⟩, hne⟩
  item := by
    intro X hP hw hK hc i pins s σ H E I hf st hg
    subst hP hw hK
    obtain ⟨⟨old, he⟩, hit, hne⟩ := st
    have hlt : i < x.cps.size := hg
    have hel : e < s.heap.objs.size := Heap.lt_size he
    have hil : it < s.heap.objs.size := by obtain ⟨_, q, _⟩ := hit; exact Heap.lt_size q
    have hef : e ∉ [it] := fun z => hne (List.mem_singleton.mp z)
    refine wpAny_pyNext_enum_itemD (drawsS (A := X.A.in1) (I.ok.hd hc) it x t) he hit hlt hne hef fun u h' tk hu ho hit' hT hsz hk => ?_
    obtain ⟨c, uu, hcx, rfl⟩ := hu
    refine ⟨_, rfl, wpAny_letOwnedTupleGo_enum (s := { s with heap := h', toks := tk + 1 }) ho fun h'' he' sb => ?_⟩
    have hT2 : h''.get? s.heap.objs.size = some { cls := .type "tuple", data := .seq #[.int i tk, .str ⟨#[c]⟩ uu] } := (sb.2 _ (Nat.ne_of_gt hel)).trans hT
    have new : ObjOk X.prog X.w (upd H s.heap.objs.size (.tup [.int (i : Nat), .str ⟨#[c]⟩])) h'' s.heap.objs.size (.tup [.int (i : Nat), .str ⟨#[c]⟩]) :=
      ⟨by show 2 ≤ sizeLine; decide, [.int i tk, .str ⟨#[c]⟩ uu], .cons ⟨_, rfl⟩ (.cons ⟨_, rfl⟩ .nil), ⟨_, hT2, rfl, _, rfl⟩⟩
    have I1 : Inv X pins σ (upd H s.heap.objs.size (.tup [.int (i : Nat), .str ⟨#[c]⟩])) { s with heap := h'', toks := tk + 1 } :=
      I.turnedNew (ch := [e, it]) (fun b ob hb q => (sb.2 b (fun z => hb (by simp [z]))).trans (hk b ob (fun z => hb (by simp [z])) (fun z => hb (by simp [z])) q)) hf (Nat.le_refl _) new
    refine ⟨.ref s.heap.objs.size, _, I1, rfl, ⟨_, c, rfl, I.hok.fresh (Nat.le_refl _), hcx, rfl⟩, ⟨⟨.str ⟨#[c]⟩ uu, ?_⟩, ?_, hne⟩, fun b hb => ?_⟩
    · have e1 : ((i + 1 : Nat) : Int) = (i : Int) + 1 := by omega
      rw [e1]; exact he'
    · obtain ⟨o, ho2, r⟩ := hit'
      exact ⟨o, (sb.2 it (Ne.symm hne)).trans ho2, r⟩
    · have hb' : b < s.heap.objs.size := by
        have e' : b = e ∨ b = it := by simpa using hb
        rcases e' with z | z
        · rw [z]; exact hel
        · rw [z]; exact hil
      rw [upd_ne (Nat.ne_of_lt hb')]
      exact (hf b hb).1
  done := by
    intro X hP hw hK hc i pins s σ H E I hf st hg
    subst hP hw hK
    obtain ⟨⟨old, he⟩, hit, hne⟩ := st
    obtain ⟨f0, f1, f2, f3, f4, f5⟩ := hf it (by simp)
    have hx : x.cps.size ≤ i := hg
    have hh : X.A.in1.handled = none := I.ok.hd hc
    have fin : ∀ h', Heap.ExtBut it s.heap h' → (none : Option Value) = none ∧ L2.Inv X pins σ H { s with heap := h' } := fun h' eb => ⟨rfl, I.turned (t' := s.toks) (fun b o hb q => eb b o hb q) f0 f1 f3 f4 f5⟩
    -- the end at any place behind
    have hT : s.TypeIs (.ref e) "enumerate" := ⟨_, he, rfl⟩
    unfold pyNext
    refine wpAny_bind (wpAny_attempt (wpAny_callSpecial?_slot (name := Str.ofString "__next__") hT PySem.F.slot_enumerate_next
      (wpAny_call_entry PySem.F.slot_enumerate_next hT PySem.F.entry_enumerate_next ?_ (PySem.F.args_enumerate_next_1 _))))
    show wpAny _ _ (field (.ref e) 2 >>= _) _ _ _
    refine wpAny_bind (wpAny_field he rfl (x := .ref it) rfl ?_)
    have hnone : x.cps[i]? = none := Array.getElem?_eq_none hx
    cases ha : x.cps.all (· < 128)
    · have e : strIterType x = "str_iterator" := by simp [strIterType, ha]
      rw [e] at hit
      refine wpAny_bind (wpAny_nextOf_wide_end hh hit hnone fun h' y he' hx' => ?_)
      obtain ⟨o, ho, hc'⟩ := hx'
      refine wpAny_bind (wpAny_isInstance (T := "StopIteration") (b := true) ⟨o, ho, hc'⟩ isSubtype_stop ?_)
      exact wpAny_pure (fin _ he')
    · have e : strIterType x = "str_ascii_iterator" := by simp [strIterType, ha]
      rw [e] at hit
      refine wpAny_bind (wpAny_nextOf_ascii_end hh hit hnone fun h' y he' hx' => ?_)
      obtain ⟨o, ho, hc'⟩ := hx'
      refine wpAny_bind (wpAny_isInstance (T := "StopIteration") (b := true) ⟨o, ho, hc'⟩ isSubtype_stop ?_)
      exact wpAny_pure (fin _ he')
  self := fun A i s Q E st h => let ⟨⟨_, he⟩, _⟩ := st; wpAny_pyIter_enum he h
def iEnumS (ta : TA) : TI := fun σ H R => ta σ H fun vs H1 => ∃ x : Str, vs = [.str x] ∧ R (Ites x) H1
theorem pi_enumS {X : Cx} {e : Expr} {ta : TA} {p pos tpos : Pos} {elts : List Expr} {kk : Nat} (hg : Gl X "enumerate") (hm : X.mg "enumerate" = none) (ha : PA X [e] ta) (hs : starEach [e] X.env = [(false, eval e X.env)] := by rfl) :
    PI X (.Tuple elts kk tpos) (.Call (.Name "enumerate" p) [e] [] pos) (iEnumS ta) := by
  refine ⟨fun pins s σ H R I h => ?_⟩
  refine Call_ (ld_blt I hg hm boot_enumerate (PyProof.Rows.callWith_type1 (thn (ha.run pos pins s σ H _ I h) fun us s1 ⟨vs, H1, I1, r1, q1⟩ => ?_) hs rfl))
  obtain ⟨x, ex, q⟩ := q1
  subst ex
  obtain ⟨u, rfl, t, rfl⟩ := r1.one
  refine call_enumerate_str fun h' he hit hsz hk => wpAny_pyIter_enum he ?_
  have I2 : Inv X pins σ H1 { s1 with heap := h' } := I1.kept (t' := s1.toks) hk
  refine ⟨s1.heap.objs.size + 1, [s1.heap.objs.size + 1, s1.heap.objs.size], _, _, H1, rfl, I2, turn_enumS x t (s1.heap.objs.size + 1) s1.heap.objs.size, ⟨⟨.none, he⟩, hit, Nat.succ_ne_self _⟩, fun b hb => ?_, q⟩
  have e' : b = s1.heap.objs.size + 1 ∨ b = s1.heap.objs.size := by simpa using hb
  have hle : s1.heap.objs.size ≤ b := by
    rcases e' with z | z
    · rw [z]; exact Nat.le_add_right _ _
    · rw [z]; exact Nat.le_refl _
  exact I1.fpOk hle (I1.hok.fresh hle)
end Lw
set_option Elab.async false
set_option linter.all false
set_option maxRecDepth 100000
set_option maxHeartbeats 4000000
namespace Lw
open PySem PySem.Spec PyProof.Rows L2
/-! ### calls by positional promises -/
/-- f(e, ..) -/
def tF (sp : Sp) (E : XK) (t : TA) : TE := fun σ H Q => t σ H fun vs H1 => sp vs H1 Q E
/-- o.m(e, ..) -/
def tM (C : Addr) (m : Str) (sp : Sp) (E : XK) (ta : TE) (t : TA) : TE := fun σ H Q => ta σ H fun x H1 => ∃ a dx fs, x = .ref a ∧ H1 a = some (.ins C dx fs) ∧ fs.lookup m = none ∧ t σ H1 fun vs H2 => sp (.ref a :: vs) H2 Q E
/-- C(e, ..) -/
def tMk (C : Addr) (sp : Sp) (E : XK) (t : TA) : TE := fun σ H Q => t σ H fun vs H1 => ∀ x dx, H1 x = none → H1 dx = none → dx ≠ x →
  sp (.ref x :: vs) (upd (upd H1 dx (.own x)) x (.ins C dx [])) (fun v H2 => v = .non ∧ Q (.ref x) H2) E
section
variable {X : Cx} {CX : CXT} {k : Nat} {f C p g : Addr} {sp : Sp} {E : XK} {x m : Str} {ps pos apos : Pos} {e o : Expr} {es : List Expr} {ta : TE} {t : TA}
theorem pe_f (F : FnR X.prog X.w X.K X.mg X.base CX k f sp) (hr : Room k X.A) (hg : Gl X x) (hm : X.mg x = some (.ref f)) (hk : PySem.W.keepIn X.K (.ref f) = true) (hx : Passes CX X E) (ha : PA X (e :: es) t)
    (hdb : (x == ("__debug__" : Str)) = false := by decide) (he : starEach (e :: es) X.env = (false, eval e X.env) :: starEach es X.env := by rfl) (hpl : (backTo pos (starEach es X.env)).any (·.1) = false := by rfl) :
    PE X (.Call (.Name x ps) (e :: es) [] pos) (tF sp E t) := by
  refine ⟨fun pins s σ H Q I h => ?_⟩
  refine wpAny_Call_Name_kw (ld_glob I hg hm ?_ hdb)
  refine PySem.W.callWith_K (h₀ := X.base) I.ok.mod.kin hk (thn (ha.run pos pins s σ H _ I h) fun us s1 ⟨vs, H1, I1, r, q⟩ => ⟨I1.kIn, ?_⟩) he hpl
  exact wpAny_call (run_fnR F hr hx I1 r q)
theorem pe_m {pl : Sem Bool} (he : PE X o ta) (c : Cls X.K C) (hm : Meth X.K C m f) (F : FnR X.prog X.w X.K X.mg X.base CX k f sp) (hr : Room k X.A) (hx : Passes CX X E) (ha : PA X (e :: es) t)
    (hst : starEach (e :: es) X.env = (false, eval e X.env) :: starEach es X.env := by rfl) (hpl : (backTo pos (starEach es X.env)).any (·.1) = false := by rfl)
    (ht : eval (.Call (.Attribute o m apos) (e :: es) [] pos) X.env = (do
      let ov ← eval o X.env
      standAt apos.atName
      let (f, first) ← holding [ov] (getMethod ov m pl)
      callWith pos f first (backTo pos (starEach (e :: es) X.env)) (backToKw pos (keywordEach [] X.env))) := by rfl) :
    PE X (.Call (.Attribute o m apos) (e :: es) [] pos) (tM C m sp E ta t) := by
  refine ⟨fun pins s σ H Q I h => ?_⟩
  refine PySem.W.methodCall_KW (pl := pl) (thn (he.run pins s σ H _ I h) fun u s1 ⟨x, H1, I1, rx, a, dx, fs, ex, ea, l, q⟩ => ?_) ht
  subst ex
  obtain rfl : u = Value.ref a := rx
  refine getmeth_ok I1 ea c hm l ?_
  refine PySem.W.callWith_K (first := [.ref a]) (h₀ := X.base) I.ok.mod.kin hm.kp (thn (ha.run pos pins s1 σ H1 _ I1 q) fun us s2 ⟨vs, H2, I2, r, q2⟩ => ⟨I2.kIn, ?_⟩) hst hpl
  exact wpAny_call (run_fnR (us := .ref a :: us) (vs := .ref a :: vs) F hr hx I2 (.cons rfl r) q2)
theorem pe_m0r {pl : Sem Bool} (he : PE X o ta) (c : Cls X.K C) (hm : Meth X.K C m f) (F : FnR X.prog X.w X.K X.mg X.base CX k f sp) (hr : Room k X.A) (hx : Passes CX X E)
    (ht : eval (.Call (.Attribute o m apos) [] [] pos) X.env = (do
      let ov ← eval o X.env
      standAt apos.atName
      let (f, first) ← holding [ov] (getMethod ov m pl)
      callWith pos f first (backTo pos (starEach [] X.env)) (backToKw pos (keywordEach [] X.env))) := by rfl) :
    PE X (.Call (.Attribute o m apos) [] [] pos) (tM C m sp E ta tNil) := by
  refine ⟨fun pins s σ H Q I h => ?_⟩
  refine PySem.W.methodCall_KW (pl := pl) (thn (he.run pins s σ H _ I h) fun u s1 ⟨x, H1, I1, rx, a, dx, fs, ex, ea, l, q⟩ => ?_) ht
  subst ex
  obtain rfl : u = Value.ref a := rx
  refine getmeth_ok I1 ea c hm l ?_
  exact PySem.W.callWith_K0 (first := [.ref a]) I1.kIn hm.kp (wpAny_call (run_fnR (us := [.ref a]) (vs := [.ref a]) F hr hx I1 (.cons rfl .nil) q))
theorem pe_mk (M : Mk X.K C f) (F : FnR X.prog X.w X.K X.mg X.base CX k f sp) (hr : Room (k + 1) X.A) (hg : Gl X x) (hm : X.mg x = some (.ref C)) (hx : Passes CX X E) (ha : PA X (e :: es) t)
    (hdb : (x == ("__debug__" : Str)) = false := by decide) (he : starEach (e :: es) X.env = (false, eval e X.env) :: starEach es X.env := by rfl) (hpl : (backTo pos (starEach es X.env)).any (·.1) = false := by rfl) :
    PE X (.Call (.Name x ps) (e :: es) [] pos) (tMk C sp E t) := by
  refine ⟨fun pins s σ H Q I h => ?_⟩
  refine wpAny_Call_Name_kw (ld_glob I hg hm ?_ hdb)
  refine PySem.W.callWith_K (h₀ := X.base) I.ok.mod.kin M.kp (thn (ha.run pos pins s σ H _ I h) fun us s1 ⟨vs, H1, I1, r, h⟩ => ⟨I1.kIn, ?_⟩) he hpl
  have hq := h (s1.heap.objs.size + 1) s1.heap.objs.size (I1.hok.fresh (Nat.le_succ _)) (I1.hok.fresh (Nat.le_refl _)) (Nat.ne_of_lt (Nat.lt_succ_self _))
  have I2 := Inv.made (C := C) I1
  have r2 : Vals (V.ref (s1.heap.objs.size + 1) :: vs) (Value.ref (s1.heap.objs.size + 1) :: us) := .cons rfl r
  refine wpAny_call (make_map (f := f) I1.kIn M.makes M.init (beq_iff_eq.mp M.fn) (codeAny_mono (F _ X.stack _ _ (Value.ref (s1.heap.objs.size + 1) :: us) _ _ E (hr.make C us []) (I2.env0.make C us []) r2 hq) fun r s' hq' => ?_))
  cases r with
  | error e => exact hx pins σ _ _ e s' I2 hq'
  | ok fl =>
    cases fl with
    | ret u =>
      obtain ⟨v, H', I3, rv, ev, q3⟩ := I2.after hq'
      subst ev
      exact ⟨rv, ⟨V.ref (s1.heap.objs.size + 1), H', I3, rfl, q3⟩⟩
    | next => exact False.elim hq'
    | brk => exact False.elim hq'
    | cont => exact False.elim hq'
end
/-! ### a def's promise, whatever its function object -/
structure FnAt (K : PySem.W.Frag) (x qual : Str) (st : Stmt) (f : Addr) : Prop where
  ex : ∃ fd : FuncData, FunD K x qual (defArgs st) (defBody st) (defScope st) [] [] f fd
section
variable {P : Program} {w : World} {K : PySem.W.Frag} {mg : Str → Option Value} {base : Heap}
theorem FnAt.fun {x qual : Str} {st : Stmt} {f : Addr} (A : FnAt K x qual st f) : ∃ fd, Fun K x qual st f fd := by
  obtain ⟨fd, F⟩ := A.ex
  obtain ⟨oc, od, dV, kV, doc, pm, an, cdv, ct, osl, e, l, c, hd, _⟩ := F.ex
  refine ⟨fd, ?_, F.kp⟩
  rcases hd with ⟨_, e2⟩ | ⟨e2, _⟩
  · subst e2
    exact ⟨oc, od, kV, doc, pm, an, cdv, ct, osl, e, l, c⟩
  · exact absurd rfl e2
theorem FnAt.kp {x qual : Str} {st : Stmt} {f : Addr} (A : FnAt K x qual st f) : PySem.W.keepIn K (.ref f) = true := by
  obtain ⟨fd, F⟩ := A.ex
  exact F.kp
def BindsP (x qual : Str) (st : Stmt) (ps : List Str) : Prop := ∀ (kV doc pm : Value) (an : Option Addr) (cdv ct : Value) (us : List Value), us.length = ps.length → bindArgs (PySem.W.fnOf x qual (defArgs st) (defBody st) (defScope st) .none kV doc pm an cdv ct) ⟨us, []⟩ = pure (ps.zip us)
theorem FnAt.ok {x qual : Str} {st : Stmt} {f : Addr} {N ps : List Str} {k : Nat} {sp : Sp} (A : FnAt K x qual st f) (S : FnScope N ps (defScope st)) (hb : BindsP x qual st ps) (len : ∀ vs H Q E, sp vs H Q E → vs.length = ps.length)
    (hbody : ∀ (cdv : Value) (A : Around) (outer : List Env) (s : Shared) (H : Hp) (vs : List V) (Q : VK) (E : XK), Room k (A.deeper (envOfC qual (defScope st) s.heap.objs.size f cdv)) → sp vs H Q E →
      ∃ t, PSs (cxOf CX0 P w K mg base N qual (defScope st) f cdv A outer s H E).nox (defBody st) t ∧ t { nx := fun _ H' => Q .non H', rt := Q } (start N vs) H) : FnR P w K mg base CX0 (k + 1) f sp := by
  obtain ⟨fd, F⟩ := A.fun
  have G := F.ok S len hbody
  refine (G.raw (F.binds hb) .nil).imp fun vs H Q E h => ?_
  rw [List.append_nil]
  exact h
theorem FnAt.okX {x qual : Str} {st : Stmt} {f : Addr} {N ps : List Str} {k : Nat} {sp : Sp} (A : FnAt K x qual st f) (S : FnScope N ps (defScope st)) (hb : BindsP x qual st ps) (len : ∀ vs H Q E, sp vs H Q E → vs.length = ps.length)
    (hbody : ∀ (cdv : Value) (A : Around) (outer : List Env) (s : Shared) (H : Hp) (vs : List V) (Q : VK) (E : XK), Room k (A.deeper (envOfC qual (defScope st) s.heap.objs.size f cdv)) → sp vs H Q E →
      ∃ t, PSs (cxOf (L2.CX P w) P w K mg base N qual (defScope st) f cdv A outer s H E) (defBody st) t ∧ t { nx := fun _ H' => Q .non H', rt := Q } (start N vs) H) : FnR P w K mg base (L2.CX P w) (k + 1) f sp := by
  obtain ⟨fd, F⟩ := A.fun
  have G := F.okX S len hbody
  refine (G.raw (F.binds hb) .nil).imp fun vs H Q E h => ?_
  rw [List.append_nil]
  exact h
end
/-! ### readings, step by step -/
section
variable {σ : L2.St} {H : Hp} {D : Ends} {Q : VK} {te ta tb tc : TE} {t u : TS} {g : TG} {tt tu : TT} {i : Nat} {v x y : V} {K : PySem.W.Frag} {C a : Addr}
theorem g_seq (h : t { D with nx := u D } σ H) : tSeq t u D σ H := h
theorem g_asg (h : te σ H fun x H1 => g x σ H1 D.nx) : tAsg te g D σ H := h
theorem g_name {R : L2.St → Hp → Prop} (h : R (σ.set i (some v)) H) : gName i v σ H R := h
theorem g_drop (h : te σ H fun _ H1 => D.nx σ H1) : tDrop te D σ H := h
theorem g_ret (h : te σ H D.rt) : tRet te D σ H := h
theorem g_retN (h : D.rt .non H) : tRetN D σ H := h
theorem g_next (h : D.nx σ H) : tNext D σ H := h
theorem g_brk (h : D.bk σ H) : tBreak D σ H := h
theorem g_cont (h : D.ct σ H) : tCont D σ H := h
theorem g_if (h : tt σ H fun b H1 => if b = true then t D σ H1 else u D σ H1) : tIfS tt t u D σ H := h
theorem g_var (h : σ[i]? = some (some v)) (q : Q v H) : tVar i σ H Q := ⟨v, h, q⟩
theorem g_c (q : Q v H) : tC v σ H Q := q
theorem g_op {r : R2} (h : ta σ H fun x H1 => tb σ H1 fun y H2 => r x y H2 Q) : tOp r ta tb σ H Q := h
theorem g_un {r : V → Hp → VK → Prop} (h : ta σ H fun x H1 => r x H1 Q) : tUn r ta σ H Q := h
theorem g_ifE (h : tt σ H fun c H1 => if c = true then ta σ H1 Q else tb σ H1 Q) : tIf tt ta tb σ H Q := h
theorem g_test {R : Bool → Hp → Prop} (h : te σ H fun x H' => ∃ k, x = .bl k ∧ R k H') : tTest te σ H R := h
theorem g_B {R : Bool → Hp → Prop} (h : te σ H fun x H' => ∃ k, x = .bl k ∧ R k H') : tB te σ H R := h
theorem g_and {R : Bool → Hp → Prop} (h : tt σ H fun c H1 => if c = true then tu σ H1 R else R false H1) : tAnd tt tu σ H R := h
theorem g_or {R : Bool → Hp → Prop} (h : tt σ H fun c H1 => if c = true then R true H1 else tu σ H1 R) : tOr tt tu σ H R := h
theorem g_not {R : Bool → Hp → Prop} (h : tt σ H fun c H1 => R (!c) H1) : tNot tt σ H R := h
theorem g_andV (h : ta σ H fun x H1 => ∃ c, x = .bl c ∧ if c = true then tb σ H1 Q else Q (.bl false) H1) : tAndV ta tb σ H Q := h
theorem g_orV (h : ta σ H fun x H1 => ∃ c, x = .bl c ∧ if c = true then Q (.bl true) H1 else tb σ H1 Q) : tOrV ta tb σ H Q := h
theorem g_notV (h : ta σ H fun x H1 => ∃ c, x = .bl c ∧ Q (.bl (!c)) H1) : tNotV ta σ H Q := h
theorem g_nil {R : List V → Hp → Prop} (h : R [] H) : tNil σ H R := h
theorem g_cons {ts : TA} {R : List V → Hp → Prop} (h : te σ H fun x H1 => ts σ H1 fun xs H2 => R (x :: xs) H2) : tCons te ts σ H R := h
theorem g_cb {r : List V → Hp → VK → Prop} {ts : TA} (h : ts σ H fun vs H1 => r vs H1 Q) : tCB r ts σ H Q := h
theorem g_f {sp : Sp} {E : XK} {ts : TA} (h : ts σ H fun vs H1 => sp vs H1 Q E) : tF sp E ts σ H Q := h
theorem g_bl {R : Bool → Hp → Prop} {b : Bool} (h : R b H) : ∃ k, (V.bl b) = .bl k ∧ R k H := ⟨b, rfl, h⟩
theorem g_blV {R : Bool → Prop} {b : Bool} (h : R b) : ∃ k, (V.bl b) = .bl k ∧ R k := ⟨b, rfl, h⟩
theorem g_part {te : TE} {R : Option Int → Hp → Prop} (h : te σ H fun x H1 => ∃ i, x = .int i ∧ R (some i) H1) : tPart te σ H R := h
theorem g_nopart {R : Option Int → Hp → Prop} (h : R none H) : tNoPart σ H R := h
theorem g_sl {r : V → Option Int → Option Int → Hp → VK → Prop} {tl th : TO} (h : te σ H fun x H1 => tl σ H1 fun l H2 => th σ H2 fun u H3 => r x l u H3 Q) : tSl r te tl th σ H Q := h
theorem g_intx {R : Int → Prop} {n : Int} (h : R n) : ∃ i, (V.int n) = .int i ∧ R i := ⟨n, rfl, h⟩
/-! operators on ints -/
theorem r_i0 {g : Int → Int → V} {i j : Int} (q : Q (g i j) H) : rI0 g (.int i) (.int j) H Q := ⟨i, j, rfl, rfl, q⟩
theorem r_i {c : Int → Int → Prop} {g : Int → Int → V} {i j : Int} (hc : c i j) (q : Q (g i j) H) : rI c g (.int i) (.int j) H Q := ⟨i, j, rfl, rfl, hc, q⟩
theorem r_u {g : Int → V} {i : Int} (q : Q (g i) H) : rU g (.int i) H Q := ⟨i, rfl, q⟩
theorem r_eqi {i j : Int} (q : Q (.bl (decide (i = j))) H) : rEq (.int i) (.int j) H Q := ⟨rfl, by
  have e : decide (V.int i = V.int j) = decide (i = j) := by
    by_cases h : i = j
    · subst h; simp
    · have h2 : ¬ V.int i = V.int j := fun e => h (V.int.inj e)
      rw [decide_eq_false h, decide_eq_false h2]
  rw [e]; exact q⟩
theorem r_nei {i j : Int} (q : Q (.bl (!decide (i = j))) H) : rNe (.int i) (.int j) H Q := ⟨rfl, by
  have e : decide (V.int i = V.int j) = decide (i = j) := by
    by_cases h : i = j
    · subst h; simp
    · have h2 : ¬ V.int i = V.int j := fun e => h (V.int.inj e)
      rw [decide_eq_false h, decide_eq_false h2]
  rw [e]; exact q⟩
theorem r_eqs {i j : Str} (q : Q (.bl (decide (i = j))) H) : rEq (.str i) (.str j) H Q := ⟨rfl, by
  have e : decide (V.str i = V.str j) = decide (i = j) := by
    by_cases h : i = j
    · subst h; simp
    · have h2 : ¬ V.str i = V.str j := fun e => h (V.str.inj e)
      rw [decide_eq_false h, decide_eq_false h2]
  rw [e]; exact q⟩
theorem r_nes {i j : Str} (q : Q (.bl (!decide (i = j))) H) : rNe (.str i) (.str j) H Q := ⟨rfl, by
  have e : decide (V.str i = V.str j) = decide (i = j) := by
    by_cases h : i = j
    · subst h; simp
    · have h2 : ¬ V.str i = V.str j := fun e => h (V.str.inj e)
      rw [decide_eq_false h, decide_eq_false h2]
  rw [e]; exact q⟩
theorem r_eqb {i j : Bool} (q : Q (.bl (decide (i = j))) H) : rEq (.bl i) (.bl j) H Q := ⟨rfl, by
  have e : decide (V.bl i = V.bl j) = decide (i = j) := by cases i <;> cases j <;> rfl
  rw [e]; exact q⟩
theorem r_isN_non (q : Q (.bl true) H) : rIsN .non .non H Q := ⟨rfl, q⟩
theorem r_isN_ref (q : Q (.bl false) H) : rIsN (.ref a) .non H Q := ⟨rfl, q⟩
theorem r_isN_int {i : Int} (q : Q (.bl false) H) : rIsN (.int i) .non H Q := ⟨rfl, q⟩
theorem r_notN_non (q : Q (.bl false) H) : rNotN .non .non H Q := ⟨rfl, q⟩
theorem r_notN_ref (q : Q (.bl true) H) : rNotN (.ref a) .non H Q := ⟨rfl, q⟩
end
end Lw
set_option linter.all false
set_option maxRecDepth 100000
/-! The standings of the checked mode as arrays of ranges. -/
namespace Lk
abbrev PL := List (Option (Nat × Nat))
def at_ (ps : PL) (x : Nat) : Option (Nat × Nat) := ps.getD x none
theorem at_some {ps : PL} {x : Nat} {v : Nat × Nat} (h : at_ ps x = some v) : ps[x]? = some (some v) := by
  unfold at_ at h
  rw [List.getD_eq_getElem?_getD] at h
  cases e : ps[x]? with
  | none => rw [e] at h; cases h
  | some o => rw [e] at h; exact congrArg some h
theorem at_lt {ps : PL} {x : Nat} {v : Nat × Nat} (h : at_ ps x = some v) : x < ps.length := (List.getElem?_eq_some_iff.mp (at_some h)).1
theorem at_get {ps : PL} {x : Nat} (h : x < ps.length) : ps[x]? = some (at_ ps x) := by
  unfold at_
  rw [List.getD_eq_getElem?_getD, List.getElem?_eq_getElem h]
  rfl
theorem at_out {ps : PL} {x : Nat} (h : ps.length ≤ x) : at_ ps x = none := by
  unfold at_
  rw [List.getD_eq_getElem?_getD, List.getElem?_eq_none h]
  rfl
theorem at_set {ps : PL} {x y : Nat} {v : Option (Nat × Nat)} (hx : x < ps.length) : at_ (ps.set x v) y = if y = x then v else at_ ps y := by
  unfold at_
  rw [List.getD_eq_getElem?_getD, List.getD_eq_getElem?_getD]
  by_cases h : y = x
  · subst h
    rw [if_pos rfl, List.getElem?_set_self hx]
    rfl
  · rw [if_neg h, List.getElem?_set_ne (Ne.symm h)]
theorem at_set_self {ps : PL} {x : Nat} {v : Option (Nat × Nat)} (hx : x < ps.length) : at_ (ps.set x v) x = v := by rw [at_set hx, if_pos rfl]
theorem at_set_ne {ps : PL} {x y : Nat} {v : Option (Nat × Nat)} (h : y ≠ x) : at_ (ps.set x v) y = at_ ps y := by
  by_cases hx : x < ps.length
  · rw [at_set hx, if_neg h]
  · rw [List.set_eq_of_length_le (Nat.le_of_not_lt hx)]
theorem at_repl {n x : Nat} : at_ (List.replicate n none) x = none := by
  unfold at_
  rw [List.getD_eq_getElem?_getD, List.getElem?_replicate]
  split <;> rfl
theorem ext_at {ps qs : PL} (hl : ps.length = qs.length) (h : ∀ x, x < ps.length → at_ ps x = at_ qs x) : ps = qs := by
  apply List.ext_getElem? 
  intro i
  by_cases hi : i < ps.length
  · rw [at_get hi, at_get (hl ▸ hi), h i hi]
  · rw [List.getElem?_eq_none (by omega), List.getElem?_eq_none (by omega)]
theorem opt2 (o : Option (Nat × Nat)) : o = none ∨ ∃ a b, o = some (a, b) := by
  cases o with
  | none => exact .inl rfl
  | some v => exact .inr ⟨v.1, v.2, rfl⟩
theorem ne_none {o : Option (Nat × Nat)} (h : o ≠ none) : ∃ a b, o = some (a, b) := (opt2 o).resolve_left h

/-! ### the neighbours that are in -/
def lowIn (ps : PL) : Nat → Nat
  | 0 => 0
  | x + 1 => if at_ ps x = none then x else lowIn ps x
def highF (ps : PL) : Nat → Nat → Nat
  | 0, x => x
  | f + 1, x => if at_ ps (x + 1) = none then x + 1 else highF ps f (x + 1)
def highIn (ps : PL) (x : Nat) : Nat := highF ps (ps.length + 1) x
structure LowAt (ps : PL) (x l : Nat) : Prop where
  lt : l < x
  in_ : at_ ps l = none
  mid : ∀ y, l < y → y < x → at_ ps y ≠ none
structure HighAt (ps : PL) (x h : Nat) : Prop where
  lt : x < h
  in_ : at_ ps h = none
  mid : ∀ y, x < y → y < h → at_ ps y ≠ none
theorem LowAt.uniq {ps : PL} {x l l' : Nat} (a : LowAt ps x l) (b : LowAt ps x l') : l = l' := by
  rcases Nat.lt_trichotomy l l' with h | h | h
  · exact absurd b.in_ (a.mid l' h b.lt)
  · exact h
  · exact absurd a.in_ (b.mid l h a.lt)
theorem HighAt.uniq {ps : PL} {x l l' : Nat} (a : HighAt ps x l) (b : HighAt ps x l') : l = l' := by
  rcases Nat.lt_trichotomy l l' with h | h | h
  · exact absurd a.in_ (b.mid l a.lt h)
  · exact h
  · exact absurd b.in_ (a.mid l' b.lt h)
theorem lowIn_at {ps : PL} (h0 : at_ ps 0 = none) : ∀ x, 1 ≤ x → LowAt ps x (lowIn ps x)
  | 0, h => absurd h (by decide)
  | x + 1, _ => by
    unfold lowIn
    by_cases e : at_ ps x = none
    · rw [if_pos e]
      exact ⟨Nat.lt_succ_self x, e, fun y h1 h2 => by omega⟩
    · rw [if_neg e]
      have hx : 1 ≤ x := by
        cases x with
        | zero => exact absurd h0 e
        | succ x => omega
      have r := lowIn_at h0 x hx
      refine ⟨Nat.lt_succ_of_lt r.lt, r.in_, fun y h1 h2 => ?_⟩
      by_cases hy : y = x
      · rw [hy]; exact e
      · exact r.mid y h1 (by omega)
theorem highF_at {ps : PL} : ∀ f x, ps.length ≤ x + f → 0 < f → HighAt ps x (highF ps f x)
  | 0, x, _, h => absurd h (by decide)
  | f + 1, x, hl, _ => by
    unfold highF
    by_cases e : at_ ps (x + 1) = none
    · rw [if_pos e]
      exact ⟨Nat.lt_succ_self x, e, fun y h1 h2 => by omega⟩
    · rw [if_neg e]
      have hx : x + 1 < ps.length := by
        obtain ⟨a, b, q⟩ := ne_none e
        exact at_lt q
      have r := highF_at (ps := ps) f (x + 1) (by omega) (by omega)
      refine ⟨by have := r.lt; omega, r.in_, fun y h1 h2 => ?_⟩
      by_cases hy : y = x + 1
      · rw [hy]; exact e
      · exact r.mid y (by omega) h2
theorem highIn_at (ps : PL) (x : Nat) : HighAt ps x (highIn ps x) := highF_at _ _ (by omega) (by omega)
theorem lowIn_eq {ps : PL} (h0 : at_ ps 0 = none) {x l : Nat} (h : LowAt ps x l) : lowIn ps x = l := (lowIn_at h0 x (by have := h.lt; omega)).uniq h
theorem highIn_eq {ps : PL} {x l : Nat} (h : HighAt ps x l) : highIn ps x = l := (highIn_at ps x).uniq h

/-! ### links -/
def lnk (ps : PL) (x : Nat) : Nat × Nat := match at_ ps x with
  | some v => v
  | none => (lowIn ps x, highIn ps x)
def lL (ps : PL) (x : Nat) : Nat := (lnk ps x).1
def lR (ps : PL) (x : Nat) : Nat := (lnk ps x).2
theorem lL_some {ps : PL} {x a b : Nat} (h : at_ ps x = some (a, b)) : lL ps x = a := by unfold lL lnk; rw [h]
theorem lR_some {ps : PL} {x a b : Nat} (h : at_ ps x = some (a, b)) : lR ps x = b := by unfold lR lnk; rw [h]
theorem lL_none {ps : PL} {x : Nat} (h : at_ ps x = none) : lL ps x = lowIn ps x := by unfold lL lnk; rw [h]
theorem lR_none {ps : PL} {x : Nat} (h : at_ ps x = none) : lR ps x = highIn ps x := by unfold lR lnk; rw [h]

/-! ### the form of a checked standing -/
structure OK (n : Nat) (ps : PL) : Prop where
  len : ps.length = n + 2
  h0 : at_ ps 0 = none
  hn : at_ ps (n + 1) = none
  rng : ∀ {x a b}, at_ ps x = some (a, b) → a < x ∧ x < b ∧ b ≤ n + 1
  inL : ∀ {x a b y}, at_ ps x = some (a, b) → a < y → y < x → ∃ c d, at_ ps y = some (c, d) ∧ a ≤ c ∧ d ≤ x
  inR : ∀ {x a b y}, at_ ps x = some (a, b) → x < y → y < b → ∃ c d, at_ ps y = some (c, d) ∧ x ≤ c ∧ d ≤ b
  upL : ∀ {x a b c d}, at_ ps x = some (a, b) → at_ ps a = some (c, d) → b ≤ d
  upR : ∀ {x a b c d}, at_ ps x = some (a, b) → at_ ps b = some (c, d) → c ≤ a
theorem OK.whole (n : Nat) : OK n (List.replicate (n + 2) none) := by
  have z : ∀ {x : Nat} {v : Nat × Nat}, at_ (List.replicate (n + 2) none) x = some v → False := fun {x v} h => by rw [at_repl] at h; cases h
  exact ⟨List.length_replicate, at_repl, at_repl, fun h => (z h).elim, fun h => (z h).elim, fun h => (z h).elim, fun h => (z h).elim, fun h => (z h).elim⟩
section
variable {n : Nat} {ps : PL}
theorem OK.out_lt (o : OK n ps) {x a b : Nat} (h : at_ ps x = some (a, b)) : 1 ≤ x ∧ x ≤ n := by
  have := o.rng h; omega
theorem OK.pos (o : OK n ps) {x : Nat} (h : at_ ps x ≠ none) : 1 ≤ x ∧ x ≤ n := by
  obtain ⟨a, b, q⟩ := ne_none h
  exact o.out_lt q
/-- everything within the range of x is out -/
theorem OK.within (o : OK n ps) {x a b y : Nat} (h : at_ ps x = some (a, b)) (h1 : a < y) (h2 : y < b) : ∃ c d, at_ ps y = some (c, d) ∧ a ≤ c ∧ d ≤ b := by
  have r := o.rng h
  rcases Nat.lt_trichotomy y x with q | q | q
  · obtain ⟨c, d, e, i, j⟩ := o.inL h h1 q
    exact ⟨c, d, e, i, by omega⟩
  · exact ⟨a, b, q ▸ h, Nat.le_refl _, Nat.le_refl _⟩
  · obtain ⟨c, d, e, i, j⟩ := o.inR h q h2
    exact ⟨c, d, e, by omega, j⟩
/-- two ranges: one within the other on one side of its root, or apart -/
theorem OK.uniq (o : OK n ps) {x y a b : Nat} (h : at_ ps x = some (a, b)) (g : at_ ps y = some (a, b)) : x = y := by
  have r := o.rng h
  have s := o.rng g
  rcases Nat.lt_trichotomy y x with q | q | q
  · obtain ⟨c, d, e, i, j⟩ := o.inL h (by omega) q
    rw [g] at e; cases e; omega
  · exact q.symm
  · obtain ⟨c, d, e, i, j⟩ := o.inR h q (by omega)
    rw [g] at e; cases e; omega
/-- the range of x is not left by what is within -/
theorem OK.nest (o : OK n ps) {x y a b c d : Nat} (h : at_ ps x = some (a, b)) (g : at_ ps y = some (c, d)) (h1 : a < y) (h2 : y < b) : a ≤ c ∧ d ≤ b := by
  obtain ⟨c', d', e, i, j⟩ := o.within h h1 h2
  rw [g] at e; cases e; exact ⟨i, j⟩

def unl (ps : PL) (x : Nat) : PL := ps.set x (some (lowIn ps x, highIn ps x))
def rel (ps : PL) (x : Nat) : PL := ps.set x none
def isTop (ps : PL) (x : Nat) : Prop := ∃ a b, at_ ps x = some (a, b) ∧ at_ ps a = none ∧ at_ ps b = none
theorem OK.unl (o : OK n ps) {x : Nat} (h1 : 1 ≤ x) (h2 : x ≤ n) (hx : at_ ps x = none) : OK n (unl ps x) := by
  have hl : x < ps.length := by rw [o.len]; omega
  have L := lowIn_at o.h0 x h1
  have R := highIn_at ps x
  have hb : highIn ps x ≤ n + 1 := by
    apply Nat.le_of_not_lt
    intro q
    exact R.mid (n + 1) (by omega) q o.hn
  generalize lowIn ps x = l at L
  generalize hh : highIn ps x = r at R hb
  have e : Lk.unl ps x = ps.set x (some (l, r)) := by
    unfold Lk.unl
    rw [lowIn_eq o.h0 L, hh]
  rw [e]
  have A : ∀ y, y ≠ x → at_ (ps.set x (some (l, r))) y = at_ ps y := fun y hy => at_set_ne hy
  have S : at_ (ps.set x (some (l, r))) x = some (l, r) := at_set_self hl
  have L1 := L.lt
  have R1 := R.lt
  -- an old range stays on one side of x
  have side : ∀ {y c d}, at_ ps y = some (c, d) → (d ≤ x ∨ x ≤ c) := by
    intro y c d q
    have r := o.rng q
    rcases Nat.lt_or_ge c x with h | h
    · rcases Nat.lt_or_ge x d with g | g
      · obtain ⟨_, _, e, _⟩ := o.within q h g
        rw [hx] at e; cases e
      · exact .inl g
    · exact .inr h
  -- an old range does not pass over l, r
  have overL : ∀ {y c d}, at_ ps y = some (c, d) → (d ≤ l ∨ l ≤ c) := by
    intro y c d q
    rcases Nat.lt_or_ge c l with h | h
    · rcases Nat.lt_or_ge l d with g | g
      · obtain ⟨_, _, e, _⟩ := o.within q h g
        rw [L.in_] at e; cases e
      · exact .inl g
    · exact .inr h
  have overR : ∀ {y c d}, at_ ps y = some (c, d) → (d ≤ r ∨ r ≤ c) := by
    intro y c d q
    rcases Nat.lt_or_ge c r with h | h
    · rcases Nat.lt_or_ge r d with g | g
      · obtain ⟨_, _, e, _⟩ := o.within q h g
        rw [R.in_] at e; cases e
      · exact .inl g
    · exact .inr h
  refine ⟨by rw [List.length_set]; exact o.len, ?_, ?_, ?_, ?_, ?_, ?_, ?_⟩
  · rw [A 0 (by omega)]; exact o.h0
  · rw [A (n + 1) (by omega)]; exact o.hn
  · intro y a b q
    by_cases hy : y = x
    · subst hy; rw [S] at q; cases q; exact ⟨L1, R1, hb⟩
    · rw [A y hy] at q; exact o.rng q
  · intro y a b z q z1 z2
    by_cases hy : y = x
    · subst hy; rw [S] at q; cases q
      obtain ⟨c, d, e⟩ := ne_none (L.mid z z1 z2)
      have re := o.rng e
      refine ⟨c, d, by rw [A z (by omega)]; exact e, ?_, ?_⟩
      · rcases overL e with g | g <;> omega
      · rcases side e with g | g <;> omega
    · rw [A y hy] at q
      obtain ⟨c, d, e, i, j⟩ := o.inL q z1 z2
      have hz : z ≠ x := fun e' => by rw [e', hx] at e; cases e
      exact ⟨c, d, by rw [A z hz]; exact e, i, j⟩
  · intro y a b z q z1 z2
    by_cases hy : y = x
    · subst hy; rw [S] at q; cases q
      obtain ⟨c, d, e⟩ := ne_none (R.mid z z1 z2)
      have re := o.rng e
      refine ⟨c, d, by rw [A z (by omega)]; exact e, ?_, ?_⟩
      · rcases side e with g | g <;> omega
      · rcases overR e with g | g <;> omega
    · rw [A y hy] at q
      obtain ⟨c, d, e, i, j⟩ := o.inR q z1 z2
      have hz : z ≠ x := fun e' => by rw [e', hx] at e; cases e
      exact ⟨c, d, by rw [A z hz]; exact e, i, j⟩
  · intro y a b c d q p
    by_cases hy : y = x
    · subst hy; rw [S] at q; cases q
      rw [A l (by omega), L.in_] at p; cases p
    · rw [A y hy] at q
      have rq := o.rng q
      by_cases ha : a = x
      · subst ha; rw [S] at p; cases p
        rcases overR q with g | g
        · exact g
        · exact absurd g (by omega)
      · rw [A a ha] at p; exact o.upL q p
  · intro y a b c d q p
    by_cases hy : y = x
    · subst hy; rw [S] at q; cases q
      rw [A r (by omega), R.in_] at p; cases p
    · rw [A y hy] at q
      have rq := o.rng q
      by_cases ha : b = x
      · subst ha; rw [S] at p; cases p
        rcases overL q with g | g
        · exact absurd g (by omega)
        · exact g
      · rw [A b ha] at p; exact o.upR q p
theorem OK.rel (o : OK n ps) {x : Nat} (t : isTop ps x) : OK n (rel ps x) := by
  obtain ⟨a, b, hx, ha, hb⟩ := t
  have hl : x < ps.length := at_lt hx
  have r := o.rng hx
  have A : ∀ y, y ≠ x → at_ (Lk.rel ps x) y = at_ ps y := fun y hy => at_set_ne hy
  have S : at_ (Lk.rel ps x) x = none := at_set_self hl
  have P : ∀ {y c d}, at_ (Lk.rel ps x) y = some (c, d) → y ≠ x ∧ at_ ps y = some (c, d) := by
    intro y c d q
    by_cases hy : y = x
    · rw [hy, S] at q; cases q
    · rw [A y hy] at q; exact ⟨hy, q⟩
  -- no other range has x strictly within
  have side : ∀ {y c d}, y ≠ x → at_ ps y = some (c, d) → (d ≤ x ∨ x ≤ c) := by
    intro y c d hy q
    have rq := o.rng q
    rcases Nat.lt_or_ge c x with h | h
    · rcases Nat.lt_or_ge x d with g | g
      · have w := o.nest q hx h g
        rcases Nat.lt_or_ge c a with h' | h'
        · obtain ⟨_, _, e, _⟩ := o.within q h' (by omega)
          rw [ha] at e; cases e
        · rcases Nat.lt_or_ge b d with g' | g'
          · obtain ⟨_, _, e, _⟩ := o.within q (by omega) g'
            rw [hb] at e; cases e
          · have e1 : c = a := by omega
            have e2 : d = b := by omega
            subst e1; subst e2
            exact absurd (o.uniq q hx) hy
      · exact .inl g
    · exact .inr h
  refine ⟨by unfold Lk.rel; rw [List.length_set]; exact o.len, ?_, ?_, ?_, ?_, ?_, ?_, ?_⟩
  · rw [A 0 (by omega)]; exact o.h0
  · rw [A (n + 1) (by omega)]; exact o.hn
  · intro y c d q; exact o.rng (P q).2
  · intro y c d z q z1 z2
    obtain ⟨hy, q⟩ := P q
    obtain ⟨e, f, w, i, j⟩ := o.inL q z1 z2
    have hz : z ≠ x := fun e' => by
      have rq := o.rng q
      rcases side hy q with g | g <;> omega
    exact ⟨e, f, by rw [A z hz]; exact w, i, j⟩
  · intro y c d z q z1 z2
    obtain ⟨hy, q⟩ := P q
    obtain ⟨e, f, w, i, j⟩ := o.inR q z1 z2
    have hz : z ≠ x := fun e' => by
      have rq := o.rng q
      rcases side hy q with g | g <;> omega
    exact ⟨e, f, by rw [A z hz]; exact w, i, j⟩
  · intro y c d e f q p
    exact o.upL (P q).2 (P p).2
  · intro y c d e f q p
    exact o.upR (P q).2 (P p).2
end
end Lk
set_option linter.all false
set_option maxRecDepth 100000
namespace Lk
/-! ### roots -/
def Encl (ps : PL) (a b : Nat) : Prop := ∀ y, a < y → y < b → ∃ c d, at_ ps y = some (c, d) ∧ a ≤ c ∧ d ≤ b
section
variable {n : Nat} {ps : PL}
theorem OK.rootFrom (o : OK n ps) {a b : Nat} (E : Encl ps a b) : ∀ (k y c d : Nat), at_ ps y = some (c, d) → a < y → y < b → (b - a) - (d - c) ≤ k → ∃ x, at_ ps x = some (a, b) ∧ a < x ∧ x < b := by
  intro k
  induction k with
  | zero =>
    intro y c d q h1 h2 hk
    obtain ⟨c', d', e, i, j⟩ := E y h1 h2
    rw [q] at e; cases e
    have r := o.rng q
    have e1 : c = a := by omega
    have e2 : d = b := by omega
    subst e1; subst e2
    exact ⟨y, q, h1, h2⟩
  | succ k ih =>
    intro y c d q h1 h2 hk
    obtain ⟨c', d', e, i, j⟩ := E y h1 h2
    rw [q] at e; cases e
    have r := o.rng q
    by_cases hc : c = a
    · by_cases hd : d = b
      · subst hc; subst hd; exact ⟨y, q, h1, h2⟩
      · obtain ⟨e, f, w, i', j'⟩ := E d (by omega) (by omega)
        have u := o.upR q w
        have rw' := o.rng w
        exact ih d e f w (by omega) (by omega) (by omega)
    · obtain ⟨e, f, w, i', j'⟩ := E c (by omega) (by omega)
      have u := o.upL q w
      have rw' := o.rng w
      exact ih c e f w (by omega) (by omega) (by omega)
theorem OK.root (o : OK n ps) {a b : Nat} (E : Encl ps a b) (h : a + 1 < b) : ∃ x, at_ ps x = some (a, b) ∧ a < x ∧ x < b := by
  obtain ⟨c, d, q, _, _⟩ := E (a + 1) (by omega) h
  exact o.rootFrom E _ (a + 1) c d q (by omega) h (Nat.le_refl _)
theorem OK.encL (o : OK n ps) {x a b : Nat} (h : at_ ps x = some (a, b)) : Encl ps a x := fun y h1 h2 => o.inL h h1 h2
theorem OK.encR (o : OK n ps) {x a b : Nat} (h : at_ ps x = some (a, b)) : Encl ps x b := fun y h1 h2 => o.inR h h1 h2
theorem OK.encX (o : OK n ps) {x a b : Nat} (h : at_ ps x = some (a, b)) : Encl ps a b := fun y h1 h2 => o.within h h1 h2
theorem OK.encGap (o : OK n ps) {a b : Nat} (ha : at_ ps a = none) (hb : at_ ps b = none) (hm : ∀ y, a < y → y < b → at_ ps y ≠ none) : Encl ps a b := by
  intro y h1 h2
  obtain ⟨c, d, q⟩ := ne_none (hm y h1 h2)
  have r := o.rng q
  refine ⟨c, d, q, ?_, ?_⟩
  · apply Nat.le_of_not_lt
    intro h
    obtain ⟨_, _, e, _⟩ := o.within q h (by omega)
    rw [ha] at e; cases e
  · apply Nat.le_of_not_lt
    intro h
    obtain ⟨_, _, e, _⟩ := o.within q (by omega) h
    rw [hb] at e; cases e
/-- the top over y -/
theorem OK.topOver (o : OK n ps) {y : Nat} (hy : at_ ps y ≠ none) : ∃ t a b, at_ ps t = some (a, b) ∧ at_ ps a = none ∧ at_ ps b = none ∧ a < y ∧ y < b := by
  have p := o.pos hy
  have L := lowIn_at o.h0 y p.1
  have R := highIn_at ps y
  generalize lowIn ps y = l at L
  generalize highIn ps y = r at R
  have L1 := L.lt
  have R1 := R.lt
  have E : Encl ps l r := o.encGap L.in_ R.in_ fun z h1 h2 => by
    rcases Nat.lt_trichotomy z y with q | q | q
    · exact L.mid z h1 q
    · rw [q]; exact hy
    · exact R.mid z q h2
  obtain ⟨t, ht, h1, h2⟩ := o.root E (by omega)
  exact ⟨t, l, r, ht, L.in_, R.in_, L1, R1⟩
theorem OK.topUniq (o : OK n ps) {t s a b c d y : Nat} (ht : at_ ps t = some (a, b)) (ha : at_ ps a = none) (hb : at_ ps b = none) (hs : at_ ps s = some (c, d)) (hc : at_ ps c = none) (hd : at_ ps d = none)
    (h1 : a < y) (h2 : y < b) (h3 : c < y) (h4 : y < d) : t = s := by
  have e1 : a = c := by
    rcases Nat.lt_trichotomy a c with h | h | h
    · obtain ⟨_, _, e, _⟩ := o.within ht h (by omega)
      rw [hc] at e; cases e
    · exact h
    · obtain ⟨_, _, e, _⟩ := o.within hs h (by omega)
      rw [ha] at e; cases e
  have e2 : b = d := by
    rcases Nat.lt_trichotomy b d with h | h | h
    · obtain ⟨_, _, e, _⟩ := o.within hs (by omega) h
      rw [hb] at e; cases e
    · exact h
    · obtain ⟨_, _, e, _⟩ := o.within ht (by omega) h
      rw [hd] at e; cases e
  subst e1; subst e2
  exact o.uniq ht hs
/-- a top's links are its neighbours that are in -/
theorem OK.topLow (o : OK n ps) {t a b : Nat} (ht : at_ ps t = some (a, b)) (ha : at_ ps a = none) : LowAt ps t a :=
  ⟨(o.rng ht).1, ha, fun y h1 h2 => by obtain ⟨c, d, q, _⟩ := o.inL ht h1 h2; rw [q]; simp⟩
theorem OK.topHigh (o : OK n ps) {t a b : Nat} (ht : at_ ps t = some (a, b)) (hb : at_ ps b = none) : HighAt ps t b :=
  ⟨(o.rng ht).2.1, hb, fun y h1 h2 => by obtain ⟨c, d, q, _⟩ := o.inR ht h1 h2; rw [q]; simp⟩

/-! ### parents and chains -/
def par (ps : PL) (x : Nat) : Nat := match at_ ps x with
  | none => 0
  | some (a, b) => if (at_ ps b).map (·.1) = some a then b else if (at_ ps a).map (·.2) = some b then a else 0
theorem par_eq {x a b : Nat} (h : at_ ps x = some (a, b)) : par ps x = if (at_ ps b).map (·.1) = some a then b else if (at_ ps a).map (·.2) = some b then a else 0 := by
  unfold par; rw [h]
/-- p is the parent of x -/
structure Par (ps : PL) (x a b p c d : Nat) : Prop where
  at_ : at_ ps p = some (c, d)
  side : (p = b ∧ c = a) ∨ (p = a ∧ d = b)
theorem OK.par_or (o : OK n ps) {x a b : Nat} (h : at_ ps x = some (a, b)) : (par ps x = 0 ∧ at_ ps a = none ∧ at_ ps b = none) ∨ (∃ c d, Par ps x a b (par ps x) c d) := by
  have r := o.rng h
  rw [par_eq h]
  by_cases h1 : (at_ ps b).map (·.1) = some a
  · rw [if_pos h1]
    right
    rcases opt2 (at_ ps b) with e | ⟨c, d, e⟩
    · rw [e] at h1; cases h1
    · rw [e] at h1
      have q : c = a := Option.some.inj h1
      exact ⟨c, d, e, .inl ⟨rfl, q⟩⟩
  · rw [if_neg h1]
    by_cases h2 : (at_ ps a).map (·.2) = some b
    · rw [if_pos h2]
      right
      rcases opt2 (at_ ps a) with e | ⟨c, d, e⟩
      · rw [e] at h2; cases h2
      · rw [e] at h2
        have q : d = b := Option.some.inj h2
        exact ⟨c, d, e, .inr ⟨rfl, q⟩⟩
    · rw [if_neg h2]
      left
      rcases opt2 (at_ ps a) with ea | ⟨c, d, ea⟩
      · refine ⟨rfl, ea, ?_⟩
        rcases opt2 (at_ ps b) with eb | ⟨e, f, eb⟩
        · exact eb
        · exfalso
          have u := o.upR h eb
          have rb := o.rng eb
          rcases Nat.lt_or_eq_of_le u with w | w
          · obtain ⟨_, _, z, _⟩ := o.within eb w (by omega)
            rw [ea] at z; cases z
          · rw [eb] at h1; exact h1 (congrArg some w)
      · exfalso
        have u := o.upL h ea
        have ra := o.rng ea
        rcases Nat.lt_or_eq_of_le u with w | w
        · obtain ⟨e, f, z, i, j⟩ := o.inR ea (y := b) (by omega) w
          have u2 := o.upR h z
          rw [z] at h1
          have : e = a := by omega
          exact h1 (congrArg some this)
        · rw [ea] at h2; exact h2 (congrArg some w.symm)
theorem OK.par_rng (o : OK n ps) {x a b p c d : Nat} (h : at_ ps x = some (a, b)) (q : Par ps x a b p c d) : c ≤ a ∧ b ≤ d ∧ b - a < d - c ∧ c < x ∧ x < d ∧ 1 ≤ p ∧ p ≤ n ∧ p ≠ x := by
  have r := o.rng h
  have rp := o.rng q.at_
  have pp := o.out_lt q.at_
  rcases q.side with ⟨e1, e2⟩ | ⟨e1, e2⟩ <;> subst e1 <;> subst e2 <;> omega
theorem OK.par_top (o : OK n ps) {x : Nat} (hx : at_ ps x ≠ none) : par ps x = 0 ↔ isTop ps x := by
  obtain ⟨a, b, h⟩ := ne_none hx
  constructor
  · intro e
    rcases o.par_or h with ⟨_, ha, hb⟩ | ⟨c, d, q⟩
    · exact ⟨a, b, h, ha, hb⟩
    · have := o.par_rng h q; omega
  · rintro ⟨a', b', h', ha, hb⟩
    rw [h] at h'; cases h'
    rcases o.par_or h with ⟨e, _⟩ | ⟨c, d, q⟩
    · exact e
    · exfalso
      have z := q.at_
      rcases q.side with ⟨e, _⟩ | ⟨e, _⟩
      · rw [e, hb] at z; cases z
      · rw [e, ha] at z; cases z
def wid (ps : PL) (x : Nat) : Nat := lR ps x - lL ps x
theorem wid_eq {x a b : Nat} (h : at_ ps x = some (a, b)) : wid ps x = b - a := by unfold wid; rw [lL_some h, lR_some h]
theorem OK.par_out (o : OK n ps) {x : Nat} (hx : at_ ps x ≠ none) (hp : par ps x ≠ 0) : at_ ps (par ps x) ≠ none ∧ wid ps x < wid ps (par ps x) ∧ wid ps (par ps x) ≤ n + 1 := by
  obtain ⟨a, b, h⟩ := ne_none hx
  rcases o.par_or h with ⟨e, _⟩ | ⟨c, d, q⟩
  · exact absurd e hp
  · have r := o.par_rng h q
    have rq := o.rng q.at_
    rw [wid_eq h, wid_eq q.at_]
    exact ⟨by rw [q.at_]; simp, by omega, by omega⟩
def chF (ps : PL) : Nat → Nat → List Nat
  | 0, _ => []
  | f + 1, x => if par ps x = 0 then [] else par ps x :: chF ps f (par ps x)
def chain (ps : PL) (x : Nat) : List Nat := chF ps ps.length x
theorem OK.chF_stable (o : OK n ps) : ∀ f x, at_ ps x ≠ none → n + 1 < wid ps x + f → chF ps (f + 1) x = chF ps f x := by
  intro f
  induction f with
  | zero =>
    intro x hx h
    by_cases hp : par ps x = 0
    · unfold chF; rw [if_pos hp]
    · have := o.par_out hx hp; omega
  | succ f ih =>
    intro x hx h
    rw [show chF ps (f + 1 + 1) x = if par ps x = 0 then [] else par ps x :: chF ps (f + 1) (par ps x) from rfl, show chF ps (f + 1) x = if par ps x = 0 then [] else par ps x :: chF ps f (par ps x) from rfl]
    by_cases hp : par ps x = 0
    · rw [if_pos hp, if_pos hp]
    · rw [if_neg hp, if_neg hp]
      have r := o.par_out hx hp
      rw [ih (par ps x) r.1 (by omega)]
theorem OK.chain_eq (o : OK n ps) {x : Nat} (hx : at_ ps x ≠ none) : chain ps x = if par ps x = 0 then [] else par ps x :: chain ps (par ps x) := by
  unfold chain
  rw [o.len]
  show (if par ps x = 0 then [] else par ps x :: chF ps (n + 1) (par ps x)) = _
  by_cases hp : par ps x = 0
  · rw [if_pos hp, if_pos hp]
  · rw [if_neg hp, if_neg hp]
    have r := o.par_out hx hp
    rw [← o.chF_stable (n + 1) (par ps x) r.1 (by omega)]
theorem OK.chF_len (o : OK n ps) : ∀ f x, at_ ps x ≠ none → (chF ps f x).length + wid ps x ≤ n + 1 := by
  intro f
  induction f with
  | zero =>
    intro x hx
    obtain ⟨a, b, h⟩ := ne_none hx
    have := o.rng h
    rw [wid_eq h]
    show 0 + _ ≤ _
    omega
  | succ f ih =>
    intro x hx
    rw [show chF ps (f + 1) x = if par ps x = 0 then [] else par ps x :: chF ps f (par ps x) from rfl]
    by_cases hp : par ps x = 0
    · rw [if_pos hp]
      obtain ⟨a, b, h⟩ := ne_none hx
      have := o.rng h
      rw [wid_eq h]
      show 0 + _ ≤ _
      omega
    · rw [if_neg hp, List.length_cons]
      have r := o.par_out hx hp
      have := ih (par ps x) r.1
      omega
theorem OK.chain_len (o : OK n ps) {x : Nat} (hx : at_ ps x ≠ none) : (chain ps x).length ≤ n := by
  have := o.chF_len ps.length x hx
  obtain ⟨a, b, h⟩ := ne_none hx
  have r := o.rng h
  rw [wid_eq h] at this
  unfold chain
  omega
theorem OK.chain_out (o : OK n ps) : ∀ f x, at_ ps x ≠ none → ∀ y ∈ chF ps f x, at_ ps y ≠ none := by
  intro f
  induction f with
  | zero => intro x hx y hy; cases hy
  | succ f ih =>
    intro x hx y hy
    rw [show chF ps (f + 1) x = if par ps x = 0 then [] else par ps x :: chF ps f (par ps x) from rfl] at hy
    by_cases hp : par ps x = 0
    · rw [if_pos hp] at hy; cases hy
    · rw [if_neg hp] at hy
      have r := o.par_out hx hp
      rcases List.mem_cons.mp hy with e | e
      · rw [e]; exact r.1
      · exact ih _ r.1 y e
end
end Lk
set_option Elab.async false
set_option linter.all false
set_option maxRecDepth 100000
set_option maxHeartbeats 4000000
namespace Lw
open PySem PySem.Spec PyProof.Rows L2
theorem pe_gi {X : Cx} {x : Str} {i : Int} {pos : Pos} (hg : Gl X x) (h : ∃ t, X.mg x = some (.int i t)) (hd : (x == ("__debug__" : Str)) = false := by decide) : PE X (.Name x pos) (tC (.int i)) := by
  obtain ⟨t, h⟩ := h
  exact pe_glob hg h ⟨t, rfl⟩ hd
theorem ip_mul {X : Cx} : PIp X .Mult (fun x y H Q => ∃ i j, x = .int i ∧ y = .int j ∧ CMul i j ∧ Q (.int (i * j)) H) := by
  intro pins s σ H x y v u Q I r1 r2 h
  exact iop_mul pins s σ H x y v u _ I r1 r2 h
/-- what the top has written -/
structure Tx (K : PySem.W.Frag) (mg : Str → Option Value) : Prop where
  n_len : mg "len" = none
  n_abs : mg "abs" = none
  n_max : mg "max" = none
  n_min : mg "min" = none
  n_int : mg "int" = none
  n_bool : mg "bool" = none
  n_list : mg "list" = none
  n_str : mg "str" = none
  n_sum : mg "sum" = none
  n_sorted : mg "sorted" = none
  n_isinstance : mg "isinstance" = none
  n_range : mg "range" = none
  n_enumerate : mg "enumerate" = none
  g_factorial : mg "factorial" = some (.builtin "math.factorial")
  g_MOST_NODES : ∃ t, mg "MOST_NODES" = some (.int 60 t)
  g_MOST_DIGITS : ∃ t, mg "MOST_DIGITS" = some (.int 9 t)
  g_PARTS : ∃ t, mg "PARTS" = some (.int 3 t)
  g_Links : mg "Links" = some (.ref (He.ga K "Links"))
  cLinks : Cls K (He.ga K "Links")
  mkLinks : Mk K (He.ga K "Links") (He.ma K (He.ga K "Links") "__init__")
  crLinks : ClX.CRead K (He.ga K "Links") (.type "type")
  vLinks_MOST : ∃ u, ClX.CVal K (He.ga K "Links") (.type "type") "MOST" (.int 60) u
  aLinks_size : NoAttr K (He.ga K "Links") "size"
  aLinks__lefts : NoAttr K (He.ga K "Links") "_lefts"
  aLinks__rights : NoAttr K (He.ga K "Links") "_rights"
  aLinks__flags : NoAttr K (He.ga K "Links") "_flags"
  g_Forest : mg "Forest" = some (.ref (He.ga K "Forest"))
  cForest : Cls K (He.ga K "Forest")
  mkForest : Mk K (He.ga K "Forest") (He.ma K (He.ga K "Forest") "__init__")
  crForest : ClX.CRead K (He.ga K "Forest") (.type "type")
  aForest_size : NoAttr K (He.ga K "Forest") "size"
  aForest__links : NoAttr K (He.ga K "Forest") "_links"
  aForest__parents : NoAttr K (He.ga K "Forest") "_parents"
  g_check_size : mg "check_size" = some (.ref (He.ga K "check_size"))
  k_check_size : PySem.W.keepIn K (.ref (He.ga K "check_size")) = true
  F_check_size : FnAt K "check_size" "check_size" s_check_size (He.ga K "check_size")
  g_check_operation : mg "check_operation" = some (.ref (He.ga K "check_operation"))
  k_check_operation : PySem.W.keepIn K (.ref (He.ga K "check_operation")) = true
  F_check_operation : FnAt K "check_operation" "check_operation" s_check_operation (He.ga K "check_operation")
  g_is_number : mg "is_number" = some (.ref (He.ga K "is_number"))
  k_is_number : PySem.W.keepIn K (.ref (He.ga K "is_number")) = true
  F_is_number : FnAt K "is_number" "is_number" s_is_number (He.ga K "is_number")
  g_numbers : mg "_numbers" = some (.ref (He.ga K "_numbers"))
  k_numbers : PySem.W.keepIn K (.ref (He.ga K "_numbers")) = true
  F_numbers : FnAt K "_numbers" "_numbers" s_numbers (He.ga K "_numbers")
  g_read_rights : mg "_read_rights" = some (.ref (He.ga K "_read_rights"))
  k_read_rights : PySem.W.keepIn K (.ref (He.ga K "_read_rights")) = true
  F_read_rights : FnAt K "_read_rights" "_read_rights" s_read_rights (He.ga K "_read_rights")
  g_read_lefts : mg "_read_lefts" = some (.ref (He.ga K "_read_lefts"))
  k_read_lefts : PySem.W.keepIn K (.ref (He.ga K "_read_lefts")) = true
  F_read_lefts : FnAt K "_read_lefts" "_read_lefts" s_read_lefts (He.ga K "_read_lefts")
  g_read_outs : mg "_read_outs" = some (.ref (He.ga K "_read_outs"))
  k_read_outs : PySem.W.keepIn K (.ref (He.ga K "_read_outs")) = true
  F_read_outs : FnAt K "_read_outs" "_read_outs" s_read_outs (He.ga K "_read_outs")
  F_Links___init__ : FnAt K "__init__" "Links.__init__" s_Links___init__ (He.ma K (He.ga K "Links") "__init__")
  stLinks_built : SMet K (He.ga K "Links") (.type "type") "built" (He.ma K (He.ga K "Links") "built") (He5.wf K (He.ga K "Links") "staticmethod" "built")
  F_Links_built : FnAt K "built" "Links.built" s_Links_built (He5.wf K (He.ga K "Links") "staticmethod" "built")
  stLinks_read : SMet K (He.ga K "Links") (.type "type") "read" (He.ma K (He.ga K "Links") "read") (He5.wf K (He.ga K "Links") "staticmethod" "read")
  F_Links_read : FnAt K "read" "Links.read" s_Links_read (He5.wf K (He.ga K "Links") "staticmethod" "read")
  mLinks_left : Meth K (He.ga K "Links") "left" (He.ma K (He.ga K "Links") "left")
  F_Links_left : FnAt K "left" "Links.left" s_Links_left (He.ma K (He.ga K "Links") "left")
  mLinks_right : Meth K (He.ga K "Links") "right" (He.ma K (He.ga K "Links") "right")
  F_Links_right : FnAt K "right" "Links.right" s_Links_right (He.ma K (He.ga K "Links") "right")
  mLinks_is_out : Meth K (He.ga K "Links") "is_out" (He.ma K (He.ga K "Links") "is_out")
  F_Links_is_out : FnAt K "is_out" "Links.is_out" s_Links_is_out (He.ma K (He.ga K "Links") "is_out")
  mLinks_outs : Meth K (He.ga K "Links") "outs" (He.ma K (He.ga K "Links") "outs")
  F_Links_outs : FnAt K "outs" "Links.outs" s_Links_outs (He.ma K (He.ga K "Links") "outs")
  mLinks_apply : Meth K (He.ga K "Links") "apply" (He.ma K (He.ga K "Links") "apply")
  F_Links_apply : FnAt K "apply" "Links.apply" s_Links_apply (He.ma K (He.ga K "Links") "apply")
  mLinks_apply_at : Meth K (He.ga K "Links") "apply_at" (He.ma K (He.ga K "Links") "apply_at")
  F_Links_apply_at : FnAt K "apply_at" "Links.apply_at" s_Links_apply_at (He.ma K (He.ga K "Links") "apply_at")
  mLinks_is_sound : Meth K (He.ga K "Links") "is_sound" (He.ma K (He.ga K "Links") "is_sound")
  F_Links_is_sound : FnAt K "is_sound" "Links.is_sound" s_Links_is_sound (He.ma K (He.ga K "Links") "is_sound")
  mLinks_copy : Meth K (He.ga K "Links") "copy" (He.ma K (He.ga K "Links") "copy")
  F_Links_copy : FnAt K "copy" "Links.copy" s_Links_copy (He.ma K (He.ga K "Links") "copy")
  g_root_of : mg "root_of" = some (.ref (He.ga K "root_of"))
  k_root_of : PySem.W.keepIn K (.ref (He.ga K "root_of")) = true
  F_root_of : FnAt K "root_of" "root_of" s_root_of (He.ga K "root_of")
  g_has_trees : mg "has_trees" = some (.ref (He.ga K "has_trees"))
  k_has_trees : PySem.W.keepIn K (.ref (He.ga K "has_trees")) = true
  F_has_trees : FnAt K "has_trees" "has_trees" s_has_trees (He.ga K "has_trees")
  g_parent_of : mg "parent_of" = some (.ref (He.ga K "parent_of"))
  k_parent_of : PySem.W.keepIn K (.ref (He.ga K "parent_of")) = true
  F_parent_of : FnAt K "parent_of" "parent_of" s_parent_of (He.ga K "parent_of")
  g_parents_of : mg "parents_of" = some (.ref (He.ga K "parents_of"))
  k_parents_of : PySem.W.keepIn K (.ref (He.ga K "parents_of")) = true
  F_parents_of : FnAt K "parents_of" "parents_of" s_parents_of (He.ga K "parents_of")
  g_followers : mg "followers" = some (.ref (He.ga K "followers"))
  k_followers : PySem.W.keepIn K (.ref (He.ga K "followers")) = true
  F_followers : FnAt K "followers" "followers" s_followers (He.ga K "followers")
  F_Forest___init__ : FnAt K "__init__" "Forest.__init__" s_Forest___init__ (He.ma K (He.ga K "Forest") "__init__")
  stForest_read : SMet K (He.ga K "Forest") (.type "type") "read" (He.ma K (He.ga K "Forest") "read") (He5.wf K (He.ga K "Forest") "staticmethod" "read")
  F_Forest_read : FnAt K "read" "Forest.read" s_Forest_read (He5.wf K (He.ga K "Forest") "staticmethod" "read")
  stForest_of : SMet K (He.ga K "Forest") (.type "type") "of" (He.ma K (He.ga K "Forest") "of") (He5.wf K (He.ga K "Forest") "staticmethod" "of")
  F_Forest_of : FnAt K "of" "Forest.of" s_Forest_of (He5.wf K (He.ga K "Forest") "staticmethod" "of")
  stForest_grown : SMet K (He.ga K "Forest") (.type "type") "grown" (He.ma K (He.ga K "Forest") "grown") (He5.wf K (He.ga K "Forest") "staticmethod" "grown")
  F_Forest_grown : FnAt K "grown" "Forest.grown" s_Forest_grown (He5.wf K (He.ga K "Forest") "staticmethod" "grown")
  cmForest_after : ClX.CMet K (He.ga K "Forest") (.type "type") "after" (He.ma K (He.ga K "Forest") "after") (He5.wf K (He.ga K "Forest") "classmethod" "after")
  F_Forest_after : FnAt K "after" "Forest.after" s_Forest_after (He5.wf K (He.ga K "Forest") "classmethod" "after")
  mForest___len__ : Meth K (He.ga K "Forest") "__len__" (He.ma K (He.ga K "Forest") "__len__")
  F_Forest___len__ : FnAt K "__len__" "Forest.__len__" s_Forest___len__ (He.ma K (He.ga K "Forest") "__len__")
  mForest___contains__ : Meth K (He.ga K "Forest") "__contains__" (He.ma K (He.ga K "Forest") "__contains__")
  F_Forest___contains__ : FnAt K "__contains__" "Forest.__contains__" s_Forest___contains__ (He.ma K (He.ga K "Forest") "__contains__")
  mForest___str__ : Meth K (He.ga K "Forest") "__str__" (He.ma K (He.ga K "Forest") "__str__")
  F_Forest___str__ : FnAt K "__str__" "Forest.__str__" s_Forest___str__ (He.ma K (He.ga K "Forest") "__str__")
  mForest_tops : Meth K (He.ga K "Forest") "tops" (He.ma K (He.ga K "Forest") "tops")
  F_Forest_tops : FnAt K "tops" "Forest.tops" s_Forest_tops (He.ma K (He.ga K "Forest") "tops")
  mForest_parent : Meth K (He.ga K "Forest") "parent" (He.ma K (He.ga K "Forest") "parent")
  F_Forest_parent : FnAt K "parent" "Forest.parent" s_Forest_parent (He.ma K (He.ga K "Forest") "parent")
  mForest_chain : Meth K (He.ga K "Forest") "chain" (He.ma K (He.ga K "Forest") "chain")
  F_Forest_chain : FnAt K "chain" "Forest.chain" s_Forest_chain (He.ma K (He.ga K "Forest") "chain")
  mForest_below : Meth K (He.ga K "Forest") "below" (He.ma K (He.ga K "Forest") "below")
  F_Forest_below : FnAt K "below" "Forest.below" s_Forest_below (He.ma K (He.ga K "Forest") "below")
  mForest_unlinked : Meth K (He.ga K "Forest") "unlinked" (He.ma K (He.ga K "Forest") "unlinked")
  F_Forest_unlinked : FnAt K "unlinked" "Forest.unlinked" s_Forest_unlinked (He.ma K (He.ga K "Forest") "unlinked")
  mForest_relinked : Meth K (He.ga K "Forest") "relinked" (He.ma K (He.ga K "Forest") "relinked")
  F_Forest_relinked : FnAt K "relinked" "Forest.relinked" s_Forest_relinked (He.ma K (He.ga K "Forest") "relinked")
  mForest_ways_back : Meth K (He.ga K "Forest") "ways_back" (He.ma K (He.ga K "Forest") "ways_back")
  F_Forest_ways_back : FnAt K "ways_back" "Forest.ways_back" s_Forest_ways_back (He.ma K (He.ga K "Forest") "ways_back")
  mForest__check_node : Meth K (He.ga K "Forest") "_check_node" (He.ma K (He.ga K "Forest") "_check_node")
  F_Forest__check_node : FnAt K "_check_node" "Forest._check_node" s_Forest__check_node (He.ma K (He.ga K "Forest") "_check_node")
  mForest__check_out : Meth K (He.ga K "Forest") "_check_out" (He.ma K (He.ga K "Forest") "_check_out")
  F_Forest__check_out : FnAt K "_check_out" "Forest._check_out" s_Forest__check_out (He.ma K (He.ga K "Forest") "_check_out")
  g_law_purse : mg "_law_purse" = some (.ref (He.ga K "_law_purse"))
  k_law_purse : PySem.W.keepIn K (.ref (He.ga K "_law_purse")) = true
  F_law_purse : FnAt K "_law_purse" "_law_purse" s_law_purse (He.ga K "_law_purse")
  g_law_take : mg "_law_take" = some (.ref (He.ga K "_law_take"))
  k_law_take : PySem.W.keepIn K (.ref (He.ga K "_law_take")) = true
  F_law_take : FnAt K "_law_take" "_law_take" s_law_take (He.ga K "_law_take")
  g_law_is_integer : mg "_law_is_integer" = some (.ref (He.ga K "_law_is_integer"))
  k_law_is_integer : PySem.W.keepIn K (.ref (He.ga K "_law_is_integer")) = true
  F_law_is_integer : FnAt K "_law_is_integer" "_law_is_integer" s_law_is_integer (He.ga K "_law_is_integer")
  g_law_unlinked : mg "_law_unlinked" = some (.ref (He.ga K "_law_unlinked"))
  k_law_unlinked : PySem.W.keepIn K (.ref (He.ga K "_law_unlinked")) = true
  F_law_unlinked : FnAt K "_law_unlinked" "_law_unlinked" s_law_unlinked (He.ga K "_law_unlinked")
  g_law_relinked : mg "_law_relinked" = some (.ref (He.ga K "_law_relinked"))
  k_law_relinked : PySem.W.keepIn K (.ref (He.ga K "_law_relinked")) = true
  F_law_relinked : FnAt K "_law_relinked" "_law_relinked" s_law_relinked (He.ga K "_law_relinked")
  g_law_is_top : mg "_law_is_top" = some (.ref (He.ga K "_law_is_top"))
  k_law_is_top : PySem.W.keepIn K (.ref (He.ga K "_law_is_top")) = true
  F_law_is_top : FnAt K "_law_is_top" "_law_is_top" s_law_is_top (He.ga K "_law_is_top")
  g_law_draw : mg "_law_draw" = some (.ref (He.ga K "_law_draw"))
  k_law_draw : PySem.W.keepIn K (.ref (He.ga K "_law_draw")) = true
  F_law_draw : FnAt K "_law_draw" "_law_draw" s_law_draw (He.ga K "_law_draw")
  g_law_text : mg "_law_text" = some (.ref (He.ga K "_law_text"))
  k_law_text : PySem.W.keepIn K (.ref (He.ga K "_law_text")) = true
  F_law_text : FnAt K "_law_text" "_law_text" s_law_text (He.ga K "_law_text")
  g_law_left : mg "_law_left" = some (.ref (He.ga K "_law_left"))
  k_law_left : PySem.W.keepIn K (.ref (He.ga K "_law_left")) = true
  F_law_left : FnAt K "_law_left" "_law_left" s_law_left (He.ga K "_law_left")
  g_law_right : mg "_law_right" = some (.ref (He.ga K "_law_right"))
  k_law_right : PySem.W.keepIn K (.ref (He.ga K "_law_right")) = true
  F_law_right : FnAt K "_law_right" "_law_right" s_law_right (He.ga K "_law_right")
  g_law_dump : mg "_law_dump" = some (.ref (He.ga K "_law_dump"))
  k_law_dump : PySem.W.keepIn K (.ref (He.ga K "_law_dump")) = true
  F_law_dump : FnAt K "_law_dump" "_law_dump" s_law_dump (He.ga K "_law_dump")
  g_law_removal : mg "_law_removal" = some (.ref (He.ga K "_law_removal"))
  k_law_removal : PySem.W.keepIn K (.ref (He.ga K "_law_removal")) = true
  F_law_removal : FnAt K "_law_removal" "_law_removal" s_law_removal (He.ga K "_law_removal")
  g_law_forest : mg "_law_forest" = some (.ref (He.ga K "_law_forest"))
  k_law_forest : PySem.W.keepIn K (.ref (He.ga K "_law_forest")) = true
  F_law_forest : FnAt K "_law_forest" "_law_forest" s_law_forest (He.ga K "_law_forest")
  g_law_parent : mg "_law_parent" = some (.ref (He.ga K "_law_parent"))
  k_law_parent : PySem.W.keepIn K (.ref (He.ga K "_law_parent")) = true
  F_law_parent : FnAt K "_law_parent" "_law_parent" s_law_parent (He.ga K "_law_parent")
  g_law_chain : mg "_law_chain" = some (.ref (He.ga K "_law_chain"))
  k_law_chain : PySem.W.keepIn K (.ref (He.ga K "_law_chain")) = true
  F_law_chain : FnAt K "_law_chain" "_law_chain" s_law_chain (He.ga K "_law_chain")
  g_law_tops : mg "_law_tops" = some (.ref (He.ga K "_law_tops"))
  k_law_tops : PySem.W.keepIn K (.ref (He.ga K "_law_tops")) = true
  F_law_tops : FnAt K "_law_tops" "_law_tops" s_law_tops (He.ga K "_law_tops")
  g_law_quotient : mg "_law_quotient" = some (.ref (He.ga K "_law_quotient"))
  k_law_quotient : PySem.W.keepIn K (.ref (He.ga K "_law_quotient")) = true
  F_law_quotient : FnAt K "_law_quotient" "_law_quotient" s_law_quotient (He.ga K "_law_quotient")
  g_law_counted : mg "_law_counted" = some (.ref (He.ga K "_law_counted"))
  k_law_counted : PySem.W.keepIn K (.ref (He.ga K "_law_counted")) = true
  F_law_counted : FnAt K "_law_counted" "_law_counted" s_law_counted (He.ga K "_law_counted")
  g_law_ways : mg "_law_ways" = some (.ref (He.ga K "_law_ways"))
  k_law_ways : PySem.W.keepIn K (.ref (He.ga K "_law_ways")) = true
  F_law_ways : FnAt K "_law_ways" "_law_ways" s_law_ways (He.ga K "_law_ways")
  g_law_asked : mg "_law_asked" = some (.ref (He.ga K "_law_asked"))
  k_law_asked : PySem.W.keepIn K (.ref (He.ga K "_law_asked")) = true
  F_law_asked : FnAt K "_law_asked" "_law_asked" s_law_asked (He.ga K "_law_asked")
  g_law_rows : mg "_law_rows" = some (.ref (He.ga K "_law_rows"))
  k_law_rows : PySem.W.keepIn K (.ref (He.ga K "_law_rows")) = true
  F_law_rows : FnAt K "_law_rows" "_law_rows" s_law_rows (He.ga K "_law_rows")
  g_law_node : mg "_law_node" = some (.ref (He.ga K "_law_node"))
  k_law_node : PySem.W.keepIn K (.ref (He.ga K "_law_node")) = true
  F_law_node : FnAt K "_law_node" "_law_node" s_law_node (He.ga K "_law_node")
  g_law_looks : mg "_law_looks" = some (.ref (He.ga K "_law_looks"))
  k_law_looks : PySem.W.keepIn K (.ref (He.ga K "_law_looks")) = true
  F_law_looks : FnAt K "_law_looks" "_law_looks" s_law_looks (He.ga K "_law_looks")
  g_law_summed : mg "_law_summed" = some (.ref (He.ga K "_law_summed"))
  k_law_summed : PySem.W.keepIn K (.ref (He.ga K "_law_summed")) = true
  F_law_summed : FnAt K "_law_summed" "_law_summed" s_law_summed (He.ga K "_law_summed")
  g_law_led_down : mg "_law_led_down" = some (.ref (He.ga K "_law_led_down"))
  k_law_led_down : PySem.W.keepIn K (.ref (He.ga K "_law_led_down")) = true
  F_law_led_down : FnAt K "_law_led_down" "_law_led_down" s_law_led_down (He.ga K "_law_led_down")
  g_law : mg "law" = some (.ref (He.ga K "law"))
  k_law : PySem.W.keepIn K (.ref (He.ga K "law")) = true
  F_law : FnAt K "law" "law" s_law (He.ga K "law")
/-! ### what stands in the heap -/
/-- an entry of the pairs -/
def PvAt (H : Hp) (o : Option (Nat × Nat)) (v : V) : Prop := (o = none ∧ v = .non) ∨ ∃ (a b : Nat) (t : Addr), o = some (a, b) ∧ v = .ref t ∧ H t = some (.tup [.int (a : Int), .int (b : Int)])
/-- the list of the pairs -/
structure PairsAt (H : Hp) (p : Addr) (ps : Lk.PL) : Prop where
  ex : ∃ xs : List V, H p = some (.lst xs) ∧ xs.length = ps.length ∧ ∀ (i : Nat) (o : Option (Nat × Nat)), ps[i]? = some o → ∃ v, xs[i]? = some v ∧ PvAt H o v
theorem PvAt.mono {H H' : Hp} {o : Option (Nat × Nat)} {v : V} (e : Same H H') (h : PvAt H o v) : PvAt H' o v := by
  rcases h with h | ⟨a, b, t, h1, h2, h3⟩
  · exact .inl h
  · exact .inr ⟨a, b, t, h1, h2, e _ _ h3⟩
theorem PairsAt.mono {H H' : Hp} {p : Addr} {ps : Lk.PL} (e : Same H H') (h : PairsAt H p ps) : PairsAt H' p ps := by
  obtain ⟨xs, h1, h2, h3⟩ := h.ex
  exact ⟨xs, e _ _ h1, h2, fun i o hi => by
    obtain ⟨v, hv, q⟩ := h3 i o hi
    exact ⟨v, hv, q.mono e⟩⟩
theorem Same.new {H : Hp} {p : Addr} {o : HO} (h : H p = none) : Same H (upd H p o) := fun a u e => by rw [upd_ne (ne_of_none e h)]; exact e
/-- pairs[i] -/
theorem atI_cast {α : Type} {xs : List α} {i : Nat} (h : i < xs.length) : atI xs (i : Int) = xs[i]? := by
  unfold atI ixN
  rw [if_pos (by omega), if_pos (by omega)]
  rfl
theorem r_ixl {K : PySem.W.Frag} {H : Hp} {p : Addr} {xs : List V} {i : Nat} {v : V} {Q : VK} (h : H p = some (.lst xs)) (hv : xs[i]? = some v) (q : Q v H) : rIxL K (.ref p) (.int (i : Int)) H Q :=
  ⟨p, xs, (i : Int), v, rfl, rfl, SqL.of h, by rw [atI_cast (List.getElem?_eq_some_iff.mp hv).1]; exact hv, q⟩
theorem r_ixt {K : PySem.W.Frag} {H : Hp} {p : Addr} {xs : List V} {i : Nat} {v : V} {Q : VK} (h : H p = some (.tup xs)) (hv : xs[i]? = some v) (q : Q v H) : rIxT K (.ref p) (.int (i : Int)) H Q :=
  ⟨p, xs, (i : Int), v, rfl, rfl, SqT.of h, by rw [atI_cast (List.getElem?_eq_some_iff.mp hv).1]; exact hv, q⟩
theorem r_tup0 {K : PySem.W.Frag} {H : Hp} {p : Addr} {x : V} {xs : List V} {Q : VK} (h : H p = some (.tup (x :: xs))) (q : Q x H) : rIxT K (.ref p) (.int 0) H Q := r_ixt (i := 0) h rfl q
theorem r_tup1 {K : PySem.W.Frag} {H : Hp} {p : Addr} {x y : V} {xs : List V} {Q : VK} (h : H p = some (.tup (x :: y :: xs))) (q : Q y H) : rIxT K (.ref p) (.int 1) H Q := r_ixt (i := 1) h rfl q
theorem r_pairs {K : PySem.W.Frag} {H : Hp} {p : Addr} {ps : Lk.PL} {i : Nat} {Q : VK} (h : PairsAt H p ps) (hi : i < ps.length) (q0 : Lk.at_ ps i = none → Q .non H)
    (q1 : ∀ (a b : Nat) (t : Addr), Lk.at_ ps i = some (a, b) → H t = some (.tup [.int (a : Int), .int (b : Int)]) → Q (.ref t) H) : rIxL K (.ref p) (.int (i : Int)) H Q := by
  obtain ⟨xs, h1, h2, h3⟩ := h.ex
  obtain ⟨v, hv, hp⟩ := h3 i _ (Lk.at_get hi)
  rcases hp with ⟨e1, e2⟩ | ⟨a, b, t, e1, e2, e3⟩
  · subst e2
    exact r_ixl h1 hv (q0 e1)
  · subst e2
    exact r_ixl h1 hv (q1 a b t e1 e3)
theorem r_pairsN {K : PySem.W.Frag} {H : Hp} {p : Addr} {ps : Lk.PL} {i : Nat} {Q : VK} (h : PairsAt H p ps) (hi : i < ps.length) (e : Lk.at_ ps i = none) (q : Q .non H) : rIxL K (.ref p) (.int (i : Int)) H Q :=
  r_pairs h hi (fun _ => q) fun a b t e2 _ => by rw [e] at e2; cases e2
theorem r_pairsS {K : PySem.W.Frag} {H : Hp} {p : Addr} {ps : Lk.PL} {i a b : Nat} {Q : VK} (h : PairsAt H p ps) (e : Lk.at_ ps i = some (a, b)) (q : ∀ t : Addr, H t = some (.tup [.int (a : Int), .int (b : Int)]) → Q (.ref t) H) : rIxL K (.ref p) (.int (i : Int)) H Q :=
  r_pairs h (Lk.at_lt e) (fun e2 => by rw [e] at e2; cases e2) fun a' b' t e2 ht => by rw [e] at e2; cases e2; exact q t ht
theorem i_true {A B : Prop} (h : A) : if true = true then A else B := by rw [if_pos rfl]; exact h
theorem i_false {A B : Prop} (h : B) : if false = true then A else B := by rw [if_neg Bool.false_ne_true]; exact h
theorem i_dec {c : Prop} [Decidable c] {A B : Prop} (h1 : c → A) (h2 : ¬ c → B) : if decide c = true then A else B := by
  by_cases h : c
  · rw [decide_eq_true h, if_pos rfl]; exact h1 h
  · rw [decide_eq_false h, if_neg Bool.false_ne_true]; exact h2 h
theorem i_ndec {c : Prop} [Decidable c] {A B : Prop} (h1 : ¬ c → A) (h2 : c → B) : if (!decide c) = true then A else B := by
  by_cases h : c
  · rw [decide_eq_true h]; exact i_false (h2 h)
  · rw [decide_eq_false h]; exact i_true (h1 h)
end Lw
set_option Elab.async false
set_option linter.all false
set_option maxRecDepth 100000
set_option maxHeartbeats 4000000
namespace Lw
open PySem PySem.Spec PyProof.Rows L2
/-! ### the fields of the two classes -/
def lf (n : Nat) (a b c : V) : List (Str × V) := [("size", .int (n : Int)), ("_lefts", a), ("_rights", b), ("_flags", c)]
def ff (n : Nat) (a b : V) : List (Str × V) := [("size", .int (n : Int)), ("_links", a), ("_parents", b)]
theorem lookup_eq {f g : Str} {v : V} {fs : List (Str × V)} (h : f = g) : List.lookup f ((g, v) :: fs) = some v := by subst h; simp [List.lookup]
theorem lookup_ne {f g : Str} {v : V} {fs : List (Str × V)} (h : ¬ f = g) : List.lookup f ((g, v) :: fs) = List.lookup f fs := by
  have e : (f == g) = false := by simpa using h
  simp [List.lookup, e]
variable {n : Nat} {a b c : V}
theorem lf_size : (lf n a b c).lookup ("size" : Str) = some (.int (n : Int)) := lookup_eq rfl
theorem lf_lefts : (lf n a b c).lookup ("_lefts" : Str) = some a := (lookup_ne (by decide +kernel)).trans (lookup_eq rfl)
theorem lf_rights : (lf n a b c).lookup ("_rights" : Str) = some b := (lookup_ne (by decide +kernel)).trans ((lookup_ne (by decide +kernel)).trans (lookup_eq rfl))
theorem lf_flags : (lf n a b c).lookup ("_flags" : Str) = some c := (lookup_ne (by decide +kernel)).trans ((lookup_ne (by decide +kernel)).trans ((lookup_ne (by decide +kernel)).trans (lookup_eq rfl)))
theorem ff_size : (ff n a b).lookup ("size" : Str) = some (.int (n : Int)) := lookup_eq rfl
theorem ff_links : (ff n a b).lookup ("_links" : Str) = some a := (lookup_ne (by decide +kernel)).trans (lookup_eq rfl)
theorem ff_parents : (ff n a b).lookup ("_parents" : Str) = some b := (lookup_ne (by decide +kernel)).trans ((lookup_ne (by decide +kernel)).trans (lookup_eq rfl))
theorem lf_no {m : Str} (h : (["size", "_lefts", "_rights", "_flags"] : List Str).contains m = false) : (lf n a b c).lookup m = none := by
  simp only [List.contains_cons, List.contains_nil, Bool.or_eq_false_iff, beq_eq_false_iff_ne, ne_eq] at h
  obtain ⟨h1, h2, h3, h4, _⟩ := h
  unfold lf
  rw [lookup_ne h1, lookup_ne h2, lookup_ne h3, lookup_ne h4]
  rfl
theorem ff_no {m : Str} (h : (["size", "_links", "_parents"] : List Str).contains m = false) : (ff n a b).lookup m = none := by
  simp only [List.contains_cons, List.contains_nil, Bool.or_eq_false_iff, beq_eq_false_iff_ne, ne_eq] at h
  obtain ⟨h1, h2, h3, _⟩ := h
  unfold ff
  rw [lookup_ne h1, lookup_ne h2, lookup_ne h3]
  rfl
theorem put_new {f : Str} {v : V} : putF f v [] = [(f, v)] := rfl
theorem put_eq {f g : Str} {v w : V} {fs : List (Str × V)} (h : g = f) : putF f v ((g, w) :: fs) = (f, v) :: fs := by
  unfold putF
  rw [if_pos h, h]
theorem put_ne {f g : Str} {v w : V} {fs : List (Str × V)} (h : ¬ g = f) : putF f v ((g, w) :: fs) = (g, w) :: putF f v fs := by
  rw [putF, if_neg h]
/-! ### a Links object: its lists -/
structure LnkAt (K : PySem.W.Frag) (H : Hp) (l : Addr) (n : Nat) (L R F : List V) (dx la ra fa : Addr) : Prop where
  obj : H l = some (.ins (He.ga K "Links") dx (lf n (.ref la) (.ref ra) (.ref fa)))
  l_ : H la = some (.lst L)
  r_ : H ra = some (.lst R)
  f_ : H fa = some (.lst F)
  lr : la ≠ ra
  lf_ : la ≠ fa
  rf : ra ≠ fa
def LnkG (K : PySem.W.Frag) (H : Hp) (l : Addr) (n : Nat) (L R F : List V) : Prop := ∃ dx la ra fa, LnkAt K H l n L R F dx la ra fa
section
variable {K : PySem.W.Frag} {H H' : Hp} {l dx la ra fa : Addr} {L R F : List V}
theorem LnkAt.mono (e : Same H H') (h : LnkAt K H l n L R F dx la ra fa) : LnkAt K H' l n L R F dx la ra fa := ⟨e _ _ h.obj, e _ _ h.l_, e _ _ h.r_, e _ _ h.f_, h.lr, h.lf_, h.rf⟩
theorem LnkG.mono (e : Same H H') (h : LnkG K H l n L R F) : LnkG K H' l n L R F := by
  obtain ⟨dx, la, ra, fa, h⟩ := h
  exact ⟨dx, la, ra, fa, h.mono e⟩
end
/-! ### the lists of a standing -/
def leftV (ps : Lk.PL) (x : Nat) : V := if x = 0 then .int (-1) else .int (Lk.lL ps x : Int)
def rightV (n : Nat) (ps : Lk.PL) (x : Nat) : V := if x = n + 1 then .int ((n : Int) + 2) else .int (Lk.lR ps x : Int)
def flagV (ps : Lk.PL) (x : Nat) : V := .bl (Lk.at_ ps x).isSome
def parV (ps : Lk.PL) (x : Nat) : V := if (Lk.at_ ps x).isSome then .int (Lk.par ps x : Int) else .int (-1)
def listV (n : Nat) (f : Nat → V) : List V := (List.range (n + 2)).map f
theorem listV_len (n : Nat) (f : Nat → V) : (listV n f).length = n + 2 := by unfold listV; rw [List.length_map, List.length_range]
theorem listV_get {n i : Nat} {f : Nat → V} (h : i < n + 2) : (listV n f)[i]? = some (f i) := by
  unfold listV
  rw [List.getElem?_map, List.getElem?_range h]
  rfl
theorem listV_ext {n : Nat} {xs : List V} {f : Nat → V} (hl : xs.length = n + 2) (h : ∀ i, i < n + 2 → xs[i]? = some (f i)) : xs = listV n f := by
  apply List.ext_getElem?
  intro i
  by_cases hi : i < n + 2
  · rw [h i hi, listV_get hi]
  · rw [List.getElem?_eq_none (by omega), List.getElem?_eq_none (by rw [listV_len]; omega)]
/-- the standing of ps -/
def LinksAt (K : PySem.W.Frag) (H : Hp) (l : Addr) (n : Nat) (ps : Lk.PL) : Prop := LnkG K H l n (listV n (leftV ps)) (listV n (rightV n ps)) (listV n (flagV ps))
structure ForAt (K : PySem.W.Frag) (H : Hp) (f : Addr) (n : Nat) (ps : Lk.PL) (dx l q : Addr) : Prop where
  obj : H f = some (.ins (He.ga K "Forest") dx (ff n (.ref l) (.ref q)))
  lnk : LinksAt K H l n ps
  par : H q = some (.lst (listV n (parV ps)))
def ForestAt (K : PySem.W.Frag) (H : Hp) (f : Addr) (n : Nat) (ps : Lk.PL) : Prop := ∃ dx l q, ForAt K H f n ps dx l q
theorem LinksAt.mono {K : PySem.W.Frag} {H H' : Hp} {l : Addr} {ps : Lk.PL} (e : Same H H') (h : LinksAt K H l n ps) : LinksAt K H' l n ps := LnkG.mono e h
theorem ForAt.mono {K : PySem.W.Frag} {H H' : Hp} {f dx l q : Addr} {ps : Lk.PL} (e : Same H H') (h : ForAt K H f n ps dx l q) : ForAt K H' f n ps dx l q := ⟨e _ _ h.obj, h.lnk.mono e, e _ _ h.par⟩
theorem ForestAt.mono {K : PySem.W.Frag} {H H' : Hp} {f : Addr} {ps : Lk.PL} (e : Same H H') (h : ForestAt K H f n ps) : ForestAt K H' f n ps := by
  obtain ⟨dx, l, q, h⟩ := h
  exact ⟨dx, l, q, h.mono e⟩
/-- a list of naturals -/
def intsV (ns : List Nat) : List V := ns.map fun (n : Nat) => V.int (n : Int)
theorem intsV_map (ns : List Nat) : intsV ns = (ns.map fun n : Nat => (n : Int)).map V.int := by unfold intsV; rw [List.map_map]; rfl
theorem intsV_len (ns : List Nat) : (intsV ns).length = ns.length := List.length_map _
theorem intsV_get {ns : List Nat} {i x : Nat} (h : ns[i]? = some x) : (intsV ns)[i]? = some (.int (x : Int)) := by unfold intsV; rw [List.getElem?_map, h]; rfl
theorem intsV_of {ns : List Nat} {i : Nat} {v : V} (h : (intsV ns)[i]? = some v) : ∃ x, ns[i]? = some x ∧ v = .int (x : Int) := by
  unfold intsV at h
  rw [List.getElem?_map] at h
  cases e : ns[i]? with
  | none => rw [e] at h; cases h
  | some x => rw [e] at h; exact ⟨x, rfl, (Option.some.inj h).symm⟩
theorem take_succ {α : Type} {xs : List α} {i : Nat} {x : α} (h : xs[i]? = some x) : xs.take (i + 1) = xs.take i ++ [x] := by
  rw [List.take_add_one, h]; rfl
end Lw
set_option Elab.async false
set_option linter.all false
set_option maxRecDepth 100000
set_option maxHeartbeats 4000000
namespace Lw
open PySem PySem.Spec PyProof.Rows L2
/-! ### loops and comprehensions, counted by naturals -/
theorem Same.mut {H H' : Hp} {p : Addr} {o : HO} (e : Same H H') (h : H p = none) : Same H (upd H' p o) := fun a u ha => by
  rw [upd_ne (ne_of_none ha h)]
  exact e a u ha
theorem Same.upd' {H H' : Hp} {p : Addr} {o : HO} (e : Same H H') (h : H' p = none) : Same H (upd H' p o) := e.trans (Same.new h)
theorem sz {n : Nat} (h : n ≤ 100000) : n ≤ sizeLine := Nat.le_trans h (by decide)
theorem szl {n : Nat} (h : n < 100000) : n < sizeLine := Nat.lt_of_lt_of_le h (by decide)
theorem g_lc {wi : TI} {g : TG} {tt : TT} {te : TE} {vs : List Nat} {σ : L2.St} {H : Hp} {Q : VK} (h : wi σ H fun J H1 => ∀ D, H1 D = none → ∃ W : Nat → Nat → Hp → Prop, (∃ m, W 0 m (upd H1 D (.lst []))) ∧ ∀ i m H, W i m H →
  (J.stop i H ∧ Q (.ref D) H) ∨ (J.go i H ∧ ∃ Nx : Hp → Prop, (∀ H', Nx H' → ∃ m', m' < m ∧ W (i + 1) m' H') ∧ ∀ x H', J.yld i H x H' → g x (wipe σ vs) H' fun σ2 H2 => wipe σ2 vs = wipe σ vs ∧ tt σ2 H2 fun b H3 =>
    if b = true then te σ2 H3 fun y H4 => ∃ acc, H4 D = some (.lst acc) ∧ acc.length < sizeLine ∧ Nx (upd H4 D (.lst (acc ++ [y]))) else Nx H3)) : tLc wi g tt te vs σ H Q := h
theorem g_for {wi : TI} {g : TG} {tb : TS} {D : Ends} {σ : L2.St} {H : Hp} (h : wi σ H fun J H1 => ∃ W : Nat → Nat → L2.St → Hp → Prop, (∃ m, W 0 m σ H1) ∧ ∀ i m σ H, W i m σ H →
  (J.stop i H ∧ D.nx σ H) ∨ (J.go i H ∧ ∃ N : L2.St → Hp → Prop, (∀ σ' H', N σ' H' → ∃ m', m' < m ∧ W (i + 1) m' σ' H') ∧ ∀ x H', J.yld i H x H' → g x σ H' fun σ2 H2 => tb { D with nx := N, ct := N, bk := D.nx } σ2 H2)) : tFor wi g tb D σ H := h
theorem g_rng1 {ta : TA} {σ : L2.St} {H : Hp} {R : It → Hp → Prop} (h : ta σ H fun vs H1 => ∃ j : Int, vs = [.int j] ∧ -(2 ^ 62) ≤ j ∧ j < 2 ^ 62 ∧ R (Itr 0 j.toNat) H1) : iRng1 ta σ H R := h
theorem g_rng2 {ta : TA} {σ : L2.St} {H : Hp} {R : It → Hp → Prop} (h : ta σ H fun vs H1 => ∃ i j : Int, vs = [.int i, .int j] ∧ (-(2 ^ 62) ≤ i ∧ i < 2 ^ 62 ∧ -(2 ^ 62) ≤ j ∧ j < 2 ^ 62) ∧ R (Itr i (j - i).toNat) H1) : iRng2 ta σ H R := h
theorem g_ilist {K : PySem.W.Frag} {tl : TE} {σ : L2.St} {H : Hp} {R : It → Hp → Prop} (h : tl σ H fun x H1 => ∃ a, x = .ref a ∧ (∃ xs, SqL K H1 a xs) ∧ R (Itl K a) H1) : iList K tl σ H R := h
theorem rg1 {H : Hp} {R : It → Hp → Prop} {j : Int} (n : Nat) (e : j = (n : Int)) (hn : n ≤ 100000) (h : R (Itr ((0 : Nat) : Int) n) H) : ∃ j' : Int, [V.int j] = [.int j'] ∧ -(2 ^ 62) ≤ j' ∧ j' < 2 ^ 62 ∧ R (Itr 0 j'.toNat) H := by
  subst e
  exact ⟨_, rfl, by omega, by omega, h⟩
theorem rg2 {H : Hp} {R : It → Hp → Prop} {i j : Int} (a n : Nat) (ei : i = (a : Int)) (ej : j = ((a + n : Nat) : Int)) (hn : a + n ≤ 100000) (h : R (Itr (a : Int) n) H) :
    ∃ i' j' : Int, [V.int i, V.int j] = [.int i', .int j'] ∧ (-(2 ^ 62) ≤ i' ∧ i' < 2 ^ 62 ∧ -(2 ^ 62) ≤ j' ∧ j' < 2 ^ 62) ∧ R (Itr i' (j' - i').toNat) H := by
  subst ei; subst ej
  refine ⟨_, _, rfl, ⟨by omega, by omega, by omega, by omega⟩, ?_⟩
  have e : (((a + n : Nat) : Int) - (a : Int)).toNat = n := by omega
  rw [e]
  exact h
theorem il {K : PySem.W.Frag} {H : Hp} {R : It → Hp → Prop} {a : Addr} {xs : List V} (hs : H a = some (.lst xs)) (h : R (Itl K a) H) : ∃ a', V.ref a = .ref a' ∧ (∃ xs, SqL K H a' xs) ∧ R (Itl K a') H := ⟨a, rfl, ⟨xs, SqL.of hs⟩, h⟩
/-- for over a range -/
theorem for_rN {a n : Nat} {g : TG} {tb : TS} {D : Ends} {σ : L2.St} {H : Hp} (Pv : Nat → L2.St → Hp → Prop) (h0 : Pv 0 σ H)
    (hs : ∀ i σ H, i < n → Pv i σ H → g (.int ((a + i : Nat) : Int)) σ H fun σ2 H2 => tb { D with nx := Pv (i + 1), ct := Pv (i + 1), bk := D.nx } σ2 H2) (hd : ∀ σ H, Pv n σ H → D.nx σ H) :
    ∃ W : Nat → Nat → L2.St → Hp → Prop, (∃ m, W 0 m σ H) ∧ ∀ i m σ H, W i m σ H →
      ((Itr (a : Int) n).stop i H ∧ D.nx σ H) ∨ ((Itr (a : Int) n).go i H ∧ ∃ N : L2.St → Hp → Prop, (∀ σ' H', N σ' H' → ∃ m', m' < m ∧ W (i + 1) m' σ' H') ∧ ∀ x H', (Itr (a : Int) n).yld i H x H' → g x σ H' fun σ2 H2 => tb { D with nx := N, ct := N, bk := D.nx } σ2 H2) :=
  for_range Pv h0 (fun i σ H hi p => by
    have q := hs i σ H hi p
    rw [Int.natCast_add] at q
    exact q) hd
def evT (tt : TT) (σ : L2.St) (H : Hp) (b : Bool) : Prop := ∀ R : Bool → Hp → Prop, (∀ H', Same H H' → R b H') → tt σ H R
def evE (te : TE) (σ : L2.St) (H : Hp) (v : V) : Prop := ∀ R : VK, (∀ H', Same H H' → R v H') → te σ H R
theorem evT_yes {σ : L2.St} {H : Hp} : evT tYes σ H true := fun R q => q H (Same.refl H)
/-- which places are taken, and what they give -/
def giv (a n : Nat) (f : Nat → Bool) (v : Nat → V) : List V := ((List.range' a n).filter f).map v
theorem giv_yes {a n : Nat} {f : Nat → Bool} {v : Nat → V} (h : f (a + n) = true) : giv a (n + 1) f v = giv a n f v ++ [v (a + n)] := by
  unfold giv
  rw [List.range'_concat, List.filter_append, List.map_append, Nat.one_mul, List.filter_cons, if_pos h]
  rfl
theorem giv_no {a n : Nat} {f : Nat → Bool} {v : Nat → V} (h : f (a + n) = false) : giv a (n + 1) f v = giv a n f v := by
  unfold giv
  rw [List.range'_concat, List.filter_append, List.map_append, Nat.one_mul, List.filter_cons, if_neg (by rw [h]; decide)]
  simp
theorem giv_len (a n : Nat) (f : Nat → Bool) (v : Nat → V) : (giv a n f v).length ≤ n := by
  unfold giv
  rw [List.length_map]
  have h := List.length_filter_le f (List.range' a n)
  rw [List.length_range'] at h
  exact h
def cW (H : Hp) (a : Nat) (f : Nat → Bool) (v : Nat → V) (D : Addr) (i : Nat) (H' : Hp) : Prop := H D = none ∧ Same H H' ∧ H' D = some (.lst (giv a i f v))
theorem cw_turn {tt : TT} {te : TE} {H H' : Hp} {a : Nat} {f : Nat → Bool} {v : Nat → V} {D : Addr} {i : Nat} {σ2 : L2.St} (p : cW H a f v D i H') (hi : i < 50000) (ht : ∀ H1, Same H H1 → evT tt σ2 H1 (f (a + i))) (he : ∀ H1, Same H H1 → f (a + i) = true → evE te σ2 H1 (v (a + i))) :
    tt σ2 H' fun b H3 => if b = true then te σ2 H3 fun y H4 => ∃ acc, H4 D = some (.lst acc) ∧ acc.length < sizeLine ∧ cW H a f v D (i + 1) (upd H4 D (.lst (acc ++ [y]))) else cW H a f v D (i + 1) H3 := by
  obtain ⟨p1, p2, p3⟩ := p
  refine ht H' p2 _ fun H3 e3 => ?_
  cases hf : f (a + i) with
  | true =>
    refine i_true ?_
    refine he H3 (p2.trans e3) hf _ fun H4 e4 => ⟨giv a i f v, e4 D _ (e3 D _ p3), szl (by have := giv_len a i f v; omega), p1, Same.mut ((p2.trans e3).trans e4) p1, ?_⟩
    rw [giv_yes hf]
    exact upd_same
  | false =>
    refine i_false ?_
    refine ⟨p1, p2.trans e3, ?_⟩
    rw [giv_no hf]
    exact e3 D _ p3
/-- [e for x in range(..) if t] -/
theorem c_rN {a n j : Nat} {tt : TT} {te : TE} {vs : List Nat} {σ : L2.St} {H : Hp} {Q : VK} (f : Nat → Bool) (v : Nat → V) (hn : n ≤ 40000) (hw : ∀ x, wipe ((wipe σ vs).set j (some x)) vs = wipe σ vs)
    (ht : ∀ i H1, a ≤ i → i < a + n → Same H H1 → evT tt ((wipe σ vs).set j (some (.int (i : Int)))) H1 (f i)) (he : ∀ i H1, a ≤ i → i < a + n → Same H H1 → f i = true → evE te ((wipe σ vs).set j (some (.int (i : Int)))) H1 (v i))
    (q : ∀ D H', H D = none → Same H H' → H' D = some (.lst (giv a n f v)) → Q (.ref D) H') :
    ∀ D, H D = none → ∃ W : Nat → Nat → Hp → Prop, (∃ m, W 0 m (upd H D (.lst []))) ∧ ∀ i m H', W i m H' →
      ((Itr (a : Int) n).stop i H' ∧ Q (.ref D) H') ∨ ((Itr (a : Int) n).go i H' ∧ ∃ Nx : Hp → Prop, (∀ H', Nx H' → ∃ m', m' < m ∧ W (i + 1) m' H') ∧ ∀ x H'', (Itr (a : Int) n).yld i H' x H'' → gName j x (wipe σ vs) H'' fun σ2 H2 => wipe σ2 vs = wipe σ vs ∧ tt σ2 H2 fun b H3 =>
        if b = true then te σ2 H3 fun y H4 => ∃ acc, H4 D = some (.lst acc) ∧ acc.length < sizeLine ∧ Nx (upd H4 D (.lst (acc ++ [y]))) else Nx H3) := fun D hD =>
  lc_range (Qd := fun H' => Q (.ref D) H') (cW H a f v D) ⟨hD, Same.new hD, upd_same⟩ (fun i H' hi p => by
    show wipe ((wipe σ vs).set j (some (.int ((a : Int) + (i : Int))))) vs = wipe σ vs ∧ tt ((wipe σ vs).set j (some (.int ((a : Int) + (i : Int))))) H' _
    rw [← Int.natCast_add]
    exact ⟨hw _, cw_turn p (by omega) (fun H1 e => ht (a + i) H1 (by omega) (by omega) e) (fun H1 e hf => he (a + i) H1 (by omega) (by omega) e hf)⟩) (fun H' p => q D H' p.1 p.2.1 p.2.2)
/-- [e for x in xs if t] -/
theorem c_list {K : PySem.W.Frag} {l : Addr} {xs : List V} {j : Nat} {tt : TT} {te : TE} {vs : List Nat} {σ : L2.St} {H : Hp} {Q : VK} (f : Nat → Bool) (v : Nat → V) (hx : SqL K H l xs) (hn : xs.length ≤ 40000) (hw : ∀ x, wipe ((wipe σ vs).set j (some x)) vs = wipe σ vs)
    (ht : ∀ i x H1, xs[i]? = some x → Same H H1 → evT tt ((wipe σ vs).set j (some x)) H1 (f i)) (he : ∀ i x H1, xs[i]? = some x → Same H H1 → f i = true → evE te ((wipe σ vs).set j (some x)) H1 (v i))
    (q : ∀ D H', H D = none → Same H H' → H' D = some (.lst (giv 0 xs.length f v)) → Q (.ref D) H') :
    ∀ D, H D = none → ∃ W : Nat → Nat → Hp → Prop, (∃ m, W 0 m (upd H D (.lst []))) ∧ ∀ i m H', W i m H' →
      ((Itl K l).stop i H' ∧ Q (.ref D) H') ∨ ((Itl K l).go i H' ∧ ∃ Nx : Hp → Prop, (∀ H', Nx H' → ∃ m', m' < m ∧ W (i + 1) m' H') ∧ ∀ x H'', (Itl K l).yld i H' x H'' → gName j x (wipe σ vs) H'' fun σ2 H2 => wipe σ2 vs = wipe σ vs ∧ tt σ2 H2 fun b H3 =>
        if b = true then te σ2 H3 fun y H4 => ∃ acc, H4 D = some (.lst acc) ∧ acc.length < sizeLine ∧ Nx (upd H4 D (.lst (acc ++ [y]))) else Nx H3) := fun D hD =>
  lc_list (xs := xs) (Qd := fun H' => Q (.ref D) H') (cW H 0 f v D) ⟨hD, Same.new hD, upd_same⟩ (fun i H' _ p => p.2.1.seq hx) (fun i x H' hi p => by
    have z := cw_turn (tt := tt) (te := te) (σ2 := (wipe σ vs).set j (some x)) p (by have := (List.getElem?_eq_some_iff.mp hi).1; omega) (fun H1 e => by rw [Nat.zero_add]; exact ht i x H1 hi e) (fun H1 e hf => by rw [Nat.zero_add] at hf ⊢; exact he i x H1 hi e hf)
    exact ⟨hw x, z⟩) (fun H' p => q D H' p.1 p.2.1 p.2.2)
/-- new objects -/
theorem r_lst {H : Hp} {xs : List V} {Q : VK} (hl : xs.length ≤ 100000) (q : ∀ p H', H p = none → Same H H' → H' p = some (.lst xs) → Q (.ref p) H') : xs.length ≤ sizeLine ∧ ∀ p, H p = none → Q (.ref p) (upd H p (.lst xs)) :=
  ⟨sz hl, fun p hp => q p _ hp (Same.new hp) upd_same⟩
theorem r_tup {H : Hp} {xs : List V} {Q : VK} (hl : xs.length ≤ 100000) (q : ∀ p H', H p = none → Same H H' → H' p = some (.tup xs) → Q (.ref p) H') : xs.length ≤ sizeLine ∧ ∀ p, H p = none → Q (.ref p) (upd H p (.tup xs)) :=
  ⟨sz hl, fun p hp => q p _ hp (Same.new hp) upd_same⟩
theorem g_lst {t : TA} {σ : L2.St} {H : Hp} {Q : VK} (h : t σ H fun xs H1 => xs.length ≤ sizeLine ∧ ∀ p, H1 p = none → Q (.ref p) (upd H1 p (.lst xs))) : tLst t σ H Q := h
theorem g_tup {t : TA} {σ : L2.St} {H : Hp} {Q : VK} (h : t σ H fun xs H1 => xs.length ≤ sizeLine ∧ ∀ p, H1 p = none → Q (.ref p) (upd H1 p (.tup xs))) : tTup t σ H Q := h
theorem g_fld {K : PySem.W.Frag} {ta : TE} {f : Str} {σ : L2.St} {H : Hp} {Q : VK} (h : ta σ H fun x H1 => ∃ a C dx fs v, x = .ref a ∧ H1 a = some (.ins C dx fs) ∧ Cls K C ∧ NoAttr K C f ∧ fs.lookup f = some v ∧ Q v H1) : tFld K ta f σ H Q := h
theorem g_m {C : Addr} {m : Str} {sp : Sp} {E : XK} {ta : TE} {t : TA} {σ : L2.St} {H : Hp} {Q : VK} (h : ta σ H fun x H1 => ∃ a dx fs, x = .ref a ∧ H1 a = some (.ins C dx fs) ∧ fs.lookup m = none ∧ t σ H1 fun vs H2 => sp (.ref a :: vs) H2 Q E) : tM C m sp E ta t σ H Q := h
theorem g_sm {C : Addr} {sp : Sp} {E : XK} {ta : TE} {t : TA} {σ : L2.St} {H : Hp} {Q : VK} (h : ta σ H fun x H1 => x = .ref C ∧ t σ H1 fun vs H2 => sp vs H2 Q E) : tSMeth C sp E ta t σ H Q := h
theorem g_cm {C : Addr} {sp : Sp} {E : XK} {ta : TE} {t : TA} {σ : L2.St} {H : Hp} {Q : VK} (h : ta σ H fun x H1 => x = .ref C ∧ t σ H1 fun vs H2 => sp (.ref C :: vs) H2 Q E) : ClX.tCMeth C sp E ta t σ H Q := h
theorem g_mk {C : Addr} {sp : Sp} {E : XK} {t : TA} {σ : L2.St} {H : Hp} {Q : VK} (h : t σ H fun vs H1 => ∀ x dx, H1 x = none → H1 dx = none → dx ≠ x → sp (.ref x :: vs) (upd (upd H1 dx (.own x)) x (.ins C dx [])) (fun v H2 => v = .non ∧ Q (.ref x) H2) E) : tMk C sp E t σ H Q := h
theorem g_chain {r r' : R2} {ta tb tc : TE} {σ : L2.St} {H : Hp} {Q : VK} (h : ta σ H fun x H1 => tb σ H1 fun y H2 => r x y H2 fun z H3 => ∃ k, z = .bl k ∧ (if k = true then tc σ H3 fun w H4 => r' y w H4 Q else Q (.bl false) H3)) : tChain r r' ta tb tc σ H Q := h
theorem g_asgsub {to ti : TE} {t : TSet} {v : V} {σ : L2.St} {H : Hp} {R : L2.St → Hp → Prop} (h : to σ H fun o H1 => ti σ H1 fun i H2 => t o i v H2 fun H3 => R σ H3) : gSub to ti t v σ H R := h
theorem g_sfld {K : PySem.W.Frag} {ta tv : TE} {f : Str} {D : Ends} {σ : L2.St} {H : Hp} (h : tv σ H fun y H1 => ta σ H1 fun x H2 => ∃ a C dx fs, x = .ref a ∧ H2 a = some (.ins C dx fs) ∧ Cls K C ∧ NoAttr K C f ∧ fs.length < 1000 ∧ D.nx σ (upd H2 a (.ins C dx (putF f y fs)))) : sFld K ta tv f D σ H := h
theorem g_aug {i : Nat} {te : TE} {ti : TIp} {D : Ends} {σ : L2.St} {H : Hp} (h : ∃ x, σ[i]? = some (some x) ∧ te σ H fun y H1 => ti x y H1 fun z H2 => D.nx (σ.set i (some z)) H2) : tAug i te ti D σ H := h
theorem g_bm {K : PySem.W.Frag} {T : String} {r : V → List V → Hp → VK → Prop} {to : TE} {t : TA} {σ : L2.St} {H : Hp} {Q : VK} (h : to σ H fun x H1 => tyV K T x H1 ∧ t σ H1 fun xs H2 => r x xs H2 Q) : tBM K T r to t σ H Q := h
theorem g_bm0 {K : PySem.W.Frag} {T : String} {r : V → List V → Hp → VK → Prop} {to : TE} {σ : L2.St} {H : Hp} {Q : VK} (h : to σ H fun x H1 => tyV K T x H1 ∧ r x [] H1 Q) : tBM0 K T r to σ H Q := h
theorem r_setl {H : Hp} {p : Addr} {xs : List V} {j : Nat} {v : V} {R : Hp → Prop} (h : H p = some (.lst xs)) (hj : j < xs.length) (q : R (upd H p (.lst (xs.set j v)))) : rSetL (.ref p) (.int (j : Int)) v H R :=
  ⟨p, xs, (j : Int), j, rfl, rfl, h, by unfold ixN; rw [if_pos (by omega), if_pos (by omega)]; rfl, q⟩
theorem r_rep {H : Hp} {l : Addr} {x : V} {n : Nat} {Q : VK} (h : H l = some (.lst [x])) (hn : n ≤ 100000) (q : ∀ p H', H p = none → Same H H' → H' p = some (.lst (List.replicate n x)) → Q (.ref p) H') : rRep (.ref l) (.int (n : Int)) H Q := by
  refine ⟨l, (n : Int), [x], rfl, rfl, h, by omega, by omega, ?_, ?_⟩
  · rw [Int.toNat_natCast]
    exact sz (by simpa using hn)
  · intro p hp
    have e : (List.replicate (n : Int).toNat [x]).flatten = List.replicate n x := by
      rw [Int.toNat_natCast, List.flatten_replicate_singleton]
    first
      | (rw [e]; exact q p _ hp (Same.new hp) upd_same)
      | exact q p _ hp (Same.new hp) (by rw [upd_same]; simp)
theorem r_app {K : PySem.W.Frag} {H : Hp} {l : Addr} {xs : List V} {y : V} {Q : VK} (h : H l = some (.lst xs)) (hl : xs.length < 100000) (q : Q .non (upd H l (.lst (xs ++ [y])))) : rAppend (.ref l) [y] H Q := ⟨l, xs, y, rfl, rfl, h, szl hl, q⟩
theorem ty_lst {K : PySem.W.Frag} {H : Hp} {l : Addr} {xs : List V} (h : H l = some (.lst xs)) : tyV K "list" (.ref l) H := Or.inl ⟨rfl, _, SqL.of h⟩
theorem r_len {K : PySem.W.Frag} {H : Hp} {l : Addr} {xs : List V} {Q : VK} (h : H l = some (.lst xs)) (q : Q (.int (xs.length : Nat)) H) : ∃ p ys, [V.ref l] = [.ref p] ∧ (SqL K H p ys ∨ SqT K H p ys) ∧ Q (.int ys.length) H := ⟨l, xs, rfl, .inl (SqL.of h), q⟩
end Lw
set_option Elab.async false
set_option linter.all false
set_option maxRecDepth 100000
set_option maxHeartbeats 4000000
namespace Lw
open PySem PySem.Spec PyProof.Rows L2
/-! ### the fields read -/
abbrev FldQ (K : PySem.W.Frag) (x : V) (f : Str) (H : Hp) (Q : VK) : Prop := ∃ a C dx fs v, x = .ref a ∧ H a = some (.ins C dx fs) ∧ Cls K C ∧ NoAttr K C f ∧ fs.lookup f = some v ∧ Q v H
section
variable {K : PySem.W.Frag} {mg : Str → Option Value} {H : Hp} {n : Nat} {l dx la ra fa f q : Addr} {L R F : List V} {ps : Lk.PL} {Q : VK}
theorem f_size (T : Tx K mg) (h : LnkAt K H l n L R F dx la ra fa) (k : Q (.int (n : Int)) H) : FldQ K (.ref l) "size" H Q := ⟨l, _, dx, _, _, rfl, h.obj, T.cLinks, T.aLinks_size, lf_size, k⟩
theorem f_lefts (T : Tx K mg) (h : LnkAt K H l n L R F dx la ra fa) (k : Q (.ref la) H) : FldQ K (.ref l) "_lefts" H Q := ⟨l, _, dx, _, _, rfl, h.obj, T.cLinks, T.aLinks__lefts, lf_lefts, k⟩
theorem f_rights (T : Tx K mg) (h : LnkAt K H l n L R F dx la ra fa) (k : Q (.ref ra) H) : FldQ K (.ref l) "_rights" H Q := ⟨l, _, dx, _, _, rfl, h.obj, T.cLinks, T.aLinks__rights, lf_rights, k⟩
theorem f_flags (T : Tx K mg) (h : LnkAt K H l n L R F dx la ra fa) (k : Q (.ref fa) H) : FldQ K (.ref l) "_flags" H Q := ⟨l, _, dx, _, _, rfl, h.obj, T.cLinks, T.aLinks__flags, lf_flags, k⟩
theorem f_fsize (T : Tx K mg) (h : ForAt K H f n ps dx l q) (k : Q (.int (n : Int)) H) : FldQ K (.ref f) "size" H Q := ⟨f, _, dx, _, _, rfl, h.obj, T.cForest, T.aForest_size, ff_size, k⟩
theorem f_links (T : Tx K mg) (h : ForAt K H f n ps dx l q) (k : Q (.ref l) H) : FldQ K (.ref f) "_links" H Q := ⟨f, _, dx, _, _, rfl, h.obj, T.cForest, T.aForest__links, ff_links, k⟩
theorem f_parents (T : Tx K mg) (h : ForAt K H f n ps dx l q) (k : Q (.ref q) H) : FldQ K (.ref f) "_parents" H Q := ⟨f, _, dx, _, _, rfl, h.obj, T.cForest, T.aForest__parents, ff_parents, k⟩
/-- a method called on such an object -/
theorem m_l {m : Str} {Z : Prop} (h : LnkG K H l n L R F) (hm : (["size", "_lefts", "_rights", "_flags"] : List Str).contains m = false) (k : Z) :
    ∃ a dx fs, V.ref l = .ref a ∧ H a = some (.ins (He.ga K "Links") dx fs) ∧ fs.lookup m = none ∧ Z := by
  obtain ⟨dx, la, ra, fa, h⟩ := h
  exact ⟨l, dx, _, rfl, h.obj, lf_no hm, k⟩
theorem m_f {m : Str} {Z : Prop} (h : ForestAt K H f n ps) (hm : (["size", "_links", "_parents"] : List Str).contains m = false) (k : Z) :
    ∃ a dx fs, V.ref f = .ref a ∧ H a = some (.ins (He.ga K "Forest") dx fs) ∧ fs.lookup m = none ∧ Z := by
  obtain ⟨dx, l, q, h⟩ := h
  exact ⟨f, dx, _, rfl, h.obj, ff_no hm, k⟩
end
end Lw
set_option Elab.async false
set_option linter.all false
set_option maxRecDepth 100000
set_option maxHeartbeats 4000000
namespace Lw
open PySem PySem.Spec PyProof.Rows L2
theorem PvAt.upd {H : Hp} {l : Addr} {xs ys : List V} {o : Option (Nat × Nat)} {v : V} (hl : H l = some (.lst xs)) (h : PvAt H o v) : PvAt (upd H l (.lst ys)) o v := by
  rcases h with h | ⟨a, b, t, h1, h2, h3⟩
  · exact .inl h
  · refine .inr ⟨a, b, t, h1, h2, ?_⟩
    rw [upd_ne (ne_of h3 hl (by intro q; cases q))]
    exact h3
theorem PairsAt.put {H : Hp} {l : Addr} {ps : Lk.PL} {xs : List V} {x : Nat} {o : Option (Nat × Nat)} {v : V} (h : PairsAt H l ps) (hl : H l = some (.lst xs)) (hv : PvAt H o v) : PairsAt (upd H l (.lst (xs.set x v))) l (ps.set x o) := by
  obtain ⟨ys, h1, h2, h3⟩ := h.ex
  rw [hl] at h1
  cases h1
  refine ⟨xs.set x v, upd_same, by rw [List.length_set, List.length_set, h2], fun i o' hi => ?_⟩
  by_cases e : x = i
  · subst e
    have hx : x < ps.length := by
      have := (List.getElem?_eq_some_iff.mp hi).1
      rw [List.length_set] at this
      exact this
    rw [List.getElem?_set_self hx] at hi
    cases hi
    exact ⟨v, List.getElem?_set_self (by omega), hv.upd hl⟩
  · rw [List.getElem?_set_ne e] at hi
    obtain ⟨u, hu, q⟩ := h3 i o' hi
    exact ⟨u, by rw [List.getElem?_set_ne e]; exact hu, q.upd hl⟩
/-- pairs[x] = v -/
theorem r_pset {H : Hp} {l : Addr} {ps : Lk.PL} {x : Nat} {o : Option (Nat × Nat)} {v : V} {R : Hp → Prop} (h : PairsAt H l ps) (hx : x < ps.length) (hv : PvAt H o v) (q : ∀ xs : List V, PairsAt (upd H l (.lst xs)) l (ps.set x o) → R (upd H l (.lst xs))) : rSetL (.ref l) (.int (x : Int)) v H R := by
  obtain ⟨xs, h1, h2, _⟩ := h.ex
  exact r_setl h1 (by omega) (q _ (h.put h1 hv))
/-- list(pairs) -/
theorem PairsAt.copy {H H' : Hp} {l p : Addr} {ps : Lk.PL} {xs : List V} (h : PairsAt H p ps) (hp : H p = some (.lst xs)) (e : Same H H') (hl : H' l = some (.lst xs)) : PairsAt H' l ps := by
  obtain ⟨ys, h1, h2, h3⟩ := h.ex
  rw [hp] at h1
  cases h1
  exact ⟨xs, hl, h2, fun i o hi => by
    obtain ⟨v, hv, q⟩ := h3 i o hi
    exact ⟨v, hv, q.mono e⟩⟩
theorem r_listof {K : PySem.W.Frag} {H : Hp} {p : Addr} {ps : Lk.PL} {Q : VK} (h : PairsAt H p ps) (q : ∀ l H', H l = none → Same H H' → PairsAt H' l ps → Q (.ref l) H') :
    ∃ p' ys, [V.ref p] = [.ref p'] ∧ (SqL K H p' ys ∨ SqT K H p' ys) ∧ ∀ l, H l = none → Q (.ref l) (upd H l (.lst ys)) := by
  obtain ⟨xs, h1, _⟩ := h.ex
  exact ⟨p, xs, rfl, .inl (SqL.of h1), fun l hl => q l _ hl (Same.new hl) (h.copy h1 (Same.new hl) upd_same)⟩
/-- len(pairs) -/
theorem r_plen {K : PySem.W.Frag} {H : Hp} {p : Addr} {ps : Lk.PL} {Q : VK} (h : PairsAt H p ps) (q : Q (.int (ps.length : Nat)) H) : ∃ p' ys, [V.ref p] = [.ref p'] ∧ (SqL K H p' ys ∨ SqT K H p' ys) ∧ Q (.int ys.length) H := by
  obtain ⟨xs, h1, h2, _⟩ := h.ex
  refine r_len h1 ?_
  rw [h2]
  exact q
/-! ### max and min of the places that are in -/
theorem giv_ints {a n : Nat} {f : Nat → Bool} : giv a n f (fun i => V.int (i : Int)) = intsV ((List.range' a n).filter f) := rfl
theorem mem_giv {a n : Nat} {f : Nat → Bool} {m : Int} (h : m ∈ ((List.range' a n).filter f).map fun n : Nat => (n : Int)) : ∃ i : Nat, m = (i : Int) ∧ a ≤ i ∧ i < a + n ∧ f i = true := by
  obtain ⟨i, hi, e⟩ := List.mem_map.mp h
  obtain ⟨h1, h2⟩ := List.mem_filter.mp hi
  have h3 := List.mem_range'_1.mp h1
  exact ⟨i, e.symm, h3.1, h3.2, h2⟩
theorem giv_mem {a n : Nat} {f : Nat → Bool} {i : Nat} (h1 : a ≤ i) (h2 : i < a + n) (h3 : f i = true) : ((i : Nat) : Int) ∈ ((List.range' a n).filter f).map fun n : Nat => (n : Int) :=
  List.mem_map.mpr ⟨i, List.mem_filter.mpr ⟨List.mem_range'_1.mpr ⟨h1, h2⟩, h3⟩, rfl⟩
def inB (ps : Lk.PL) (i : Nat) : Bool := decide (Lk.at_ ps i = none)
def outB (ps : Lk.PL) (i : Nat) : Bool := !decide (Lk.at_ ps i = none)
theorem r_maxlow {K : PySem.W.Frag} {H : Hp} {d : Addr} {ps : Lk.PL} {x : Nat} {Q : VK} (h0 : Lk.at_ ps 0 = none) (hx : 1 ≤ x) (hd : H d = some (.lst (intsV ((List.range' 0 x).filter (inB ps))))) (q : Q (.int (Lk.lowIn ps x : Int)) H) : rMax K [.ref d] H Q := by
  refine ⟨d, _, rfl, by rw [← intsV_map]; exact SqL.of hd, ?_, fun m hm hle => ?_⟩
  · exact List.length_pos_of_mem (giv_mem (i := 0) (Nat.le_refl _) (by omega) (decide_eq_true h0))
  · obtain ⟨i, rfl, _, hi, hf⟩ := mem_giv hm
    have L := Lk.lowIn_at h0 x hx
    have e : Lk.lowIn ps x = i := L.uniq ⟨by omega, of_decide_eq_true hf, fun y h1 h2 => fun e => by
      have := hle _ (giv_mem (i := y) (Nat.zero_le _) (by omega) (decide_eq_true e))
      omega⟩
    rw [e] at q
    exact q
theorem r_minhigh {K : PySem.W.Frag} {H : Hp} {d : Addr} {ps : Lk.PL} {x n : Nat} {Q : VK} (hn : Lk.at_ ps (x + n) = none) (hx : 1 ≤ n) (hd : H d = some (.lst (intsV ((List.range' (x + 1) n).filter (inB ps))))) (q : Q (.int (Lk.highIn ps x : Int)) H) : rMin K [.ref d] H Q := by
  refine ⟨d, _, rfl, by rw [← intsV_map]; exact SqL.of hd, ?_, fun m hm hle => ?_⟩
  · exact List.length_pos_of_mem (giv_mem (i := x + n) (by omega) (by omega) (decide_eq_true hn))
  · obtain ⟨i, rfl, h1, hi, hf⟩ := mem_giv hm
    have L := Lk.highIn_at ps x
    have e : Lk.highIn ps x = i := L.uniq ⟨by omega, of_decide_eq_true hf, fun y h3 h2 => fun e => by
      have := hle _ (giv_mem (i := y) (by omega) (by omega) (decide_eq_true e))
      omega⟩
    rw [e] at q
    exact q
end Lw
set_option Elab.async false
set_option linter.all false
set_option maxRecDepth 100000
set_option maxHeartbeats 4000000
namespace Lw
open PySem PySem.Spec PyProof.Rows L2
/-! ### the rules with the written part named -/
def rLenK (K : PySem.W.Frag) : List V → Hp → VK → Prop := fun xs H Q => ∃ p ys, xs = [.ref p] ∧ (SqL K H p ys ∨ SqT K H p ys) ∧ Q (.int ys.length) H
def rListK (K : PySem.W.Frag) : List V → Hp → VK → Prop := fun xs H Q => ∃ p ys, xs = [.ref p] ∧ (SqL K H p ys ∨ SqT K H p ys) ∧ ∀ l, H l = none → Q (.ref l) (upd H l (.lst ys))
def rJoinK (K : PySem.W.Frag) : V → List V → Hp → VK → Prop := fun x xs H Q => ∃ a p, ∃ ys : List Str, x = .str a ∧ xs = [.ref p] ∧ (SqL K H p (ys.map V.str) ∨ SqT K H p (ys.map V.str)) ∧
      (ys.map (·.length)).sum + ys.length * a.length ≤ 16777216 ∧ Q (.str (Txt.join a ys)) H
def rSplitK : V → List V → Hp → VK → Prop := fun x xs H Q => ∃ a b, x = .str a ∧ xs = [.str b] ∧ (b.length == 0) = false ∧ a.length + 2 ≤ sizeLine ∧ rNewStrs (Txt.split a b) H Q
def tTruK (K : PySem.W.Frag) (ta : TE) : TT := fun σ H Q => ta σ H fun x H' => ∃ k, TruV K x H' k ∧ Q k H'
def rAbs : List V → Hp → VK → Prop := fun xs H Q => ∃ i, xs = [.int i] ∧ Q (.int (if i < 0 then -i else i)) H
def rMax2 : List V → Hp → VK → Prop := fun xs H Q => ∃ i j, xs = [.int i, .int j] ∧ Q (.int (if j > i then j else i)) H
def rMin2 : List V → Hp → VK → Prop := fun xs H Q => ∃ i j, xs = [.int i, .int j] ∧ Q (.int (if j < i then j else i)) H
def rInt1 : List V → Hp → VK → Prop := fun xs H Q => (∃ i, xs = [.int i] ∧ Q (.int i) H) ∨ ∃ k, xs = [.bl k] ∧ Q (.int (b2i k)) H
def rIntS : List V → Hp → VK → Prop := fun xs H Q => ∃ a n, xs = [.str a] ∧ PySem.intText? a = some n ∧ a.length ≤ 640 ∧ Q (.int n) H
def rStrI : List V → Hp → VK → Prop := fun xs H Q => ∃ i, xs = [.int i] ∧ i.natAbs.log2 < 1920 ∧ Q (.str (toString i)) H
def rLenStr : List V → Hp → VK → Prop := fun xs H Q => ∃ z : Str, xs = [.str z] ∧ z.length ≤ sizeLine ∧ Q (.int z.length) H
section
variable {X : Cx} {K : PySem.W.Frag} {e o elt a b : Expr} {es : List Expr} {f name : Str} {pos pos' apos cpos : Pos} {ta to te tv tb : TE} {t : TA} {T id : String} {r : V → List V → Hp → VK → Prop}
theorem ixl (h : X.K = K) : IxR X (rIxL K) := by subst h; exact ix_list
theorem ixt (h : X.K = K) : IxR X (rIxT K) := by subst h; exact ix_tup
theorem fldK (h : X.K = K) (he : PE X e ta) (hb : attributeBase e f X.env (eval e X.env) = eval e X.env := by rfl) : PE X (.Attribute e f pos) (tFld K ta f) := by subst h; exact pe_fld he hb
theorem sfldK {value : Expr} (h : X.K = K) (ha : PE X o ta) (hv : PE X value tv) (hs : swapsWith value (some (.Attribute o f pos')) pos.line X.env = pure false := by rfl) : PS X (.Assign [.Attribute o f pos'] value pos) (sFld K ta tv f) := by
  subst h; exact ps_fld ha hv hs
theorem ptupK {es : List Expr} {k : Nat} {t : TGs} {n : Nat} (h : X.K = K) (hc : X.calm = true) (hg : PGs X es t)
    (hn : (assignEach es X.env).length = n := by rfl) (hst : (assignEach es X.env).findIdx? (·.1) = none := by rfl) : PG X (.Tuple es k pos) (gTup K n t) := by subst h; exact pg_tup hc hg hn hst
theorem pilK {tg l : Expr} {tl : TE} (h : X.K = K) (hl : PE X l tl) : PI X tg l (iList K tl) := by subst h; exact pi_list hl
theorem bmK (h : X.K = K) (pa : PlainAttrs T) (slot : Slot T name id) (hty : typeOf (.builtin id) = pure (.type "method_descriptor")) (hm : MtR X id r) (ho : PE X o to) (ha : PA X (e :: es) t)
    (hbase : attributeBase o name X.env (eval o X.env) = eval o X.env := by rfl)
    (hfew : ((backTo cpos (starEach (e :: es) X.env)).all (fun x => !x.1) && (backToKw cpos (keywordEach [] X.env)).all (fun x => x.1.isSome)
      && decide ((e :: es).length + ([] : List Keyword).length + (if ([] : List Keyword).isEmpty then 0 else 1) < 30)) = true := by rfl)
    (hline : (apos.endLine == cpos.line) = true := by rfl) (hs : starEach (e :: es) X.env = (false, eval e X.env) :: starEach es X.env := by rfl) (hplain : (backTo cpos (starEach es X.env)).any (·.1) = false := by rfl) :
    PE X (.Call (.Attribute o name apos) (e :: es) [] cpos) (tBM K T r to t) := by subst h; exact pe_bm pa slot hty hm ho ha hbase hfew hline hs hplain
theorem bm0K (h : X.K = K) (pa : PlainAttrs T) (slot : Slot T name id) (hty : typeOf (.builtin id) = pure (.type "method_descriptor")) (hm : MtR X id r) (ho : PE X o to)
    (hbase : attributeBase o name X.env (eval o X.env) = eval o X.env := by rfl) (hline : (apos.endLine == cpos.line) = true := by rfl) : PE X (.Call (.Attribute o name apos) [] [] cpos) (tBM0 K T r to) := by
  subst h; exact pe_bm0 pa slot hty hm ho hbase hline
theorem truK (h : X.K = K) (ha : PE X a ta) (he : ∀ whole, isTrue a X.env whole = (do let v ← whole; standAt a.pos; holding [v] (truthy v))) : PT X a (tTruK K ta) := by subst h; exact pt_truth ha he
theorem joinK (h : X.K = K) (ho : PE X o to) (he : PE X e te) (hs : starEach [e] X.env = [(false, eval e X.env)] := by rfl) (hbase : attributeBase o "join" X.env (eval o X.env) = eval o X.env := by rfl) (hline : (apos.endLine == pos.line) = true := by rfl) :
    PE X (.Call (.Attribute o "join" apos) [e] [] pos) (tM1 (rJoinK K) to te) := by subst h; exact pe_join ho he hs hbase hline
theorem splitK (ho : PE X o to) (he : PE X e te) (hs : starEach [e] X.env = [(false, eval e X.env)] := by rfl) (hbase : attributeBase o "split" X.env (eval o X.env) = eval o X.env := by rfl) (hline : (apos.endLine == pos.line) = true := by rfl) :
    PE X (.Call (.Attribute o "split" apos) [e] [] pos) (tM1 rSplitK to te) := pe_split ho he hs hbase hline
theorem cvalK (h : X.K = K) (he : PE X e ta) (hb : attributeBase e f X.env (eval e X.env) = eval e X.env := by rfl) : PE X (.Attribute e f pos) (ClX.tCVal K ta f) := by subst h; exact ClX.pe_cval he hb
theorem lenK (h : X.K = K) : CallR X (.builtin "len") (rLenK K) := by subst h; exact call_len_seq
theorem listK (h : X.K = K) : CallR X (.type "list") (rListK K) := by subst h; exact call_list_of
theorem lenS : CallR X (.builtin "len") rLenStr := call_len_str
theorem absR : CallR X (.builtin "abs") rAbs := call_abs
theorem max2R (hc : X.calm = true) : CallR X (.builtin "max") rMax2 := call_max2 hc
theorem min2R (hc : X.calm = true) : CallR X (.builtin "min") rMin2 := call_min2 hc
theorem int1R : CallR X (.type "int") rInt1 := call_int1
theorem intSR : CallR X (.type "int") rIntS := call_int_str
theorem strIR : CallR X (.type "str") rStrI := call_str_int
theorem maxK (h : X.K = K) (hc : X.calm = true) : CallR X (.builtin "max") (rMax K) := by subst h; exact cr_max hc
theorem minK (h : X.K = K) (hc : X.calm = true) : CallR X (.builtin "min") (rMin K) := by subst h; exact cr_min hc
theorem sumK (h : X.K = K) (hc : X.calm = true) : CallR X (.builtin "sum") (rSum K) := by subst h; exact cr_sum hc
theorem sortK (h : X.K = K) : CallR X (.builtin "sorted") (rSortedPO K) := by subst h; exact cr_sortedPO
theorem isiK (h : X.K = K) : CallR X (.builtin "isinstance") (rIsi K) := by subst h; exact call_isi
theorem sllK (h : X.K = K) : SlR X (rSlL K) := by subst h; exact sl_list
theorem inK (h : X.K = K) : OpR X (compareOp .In) (rIn K false) := by subst h; exact op_in_seq
theorem notInK (h : X.K = K) : OpR X (compareOp .NotIn) (rIn K true) := by subst h; exact op_notIn_seq
theorem eqDK (h : X.K = K) (hu : X.A.units + 64 < cLine) : OpR X (compareOp .Eq) (rEqD K) := by subst h; exact op_eqD hu
theorem neDK (h : X.K = K) (hu : X.A.units + 64 < cLine) : OpR X (compareOp .NotEq) (rNeD K) := by subst h; exact op_neD hu
end
/-! ### and how they are answered -/
section
variable {K : PySem.W.Frag} {H : Hp} {Q : VK} {p : Addr} {xs : List V}
theorem a_len (h : H p = some (.lst xs)) (q : Q (.int (xs.length : Nat)) H) : rLenK K [.ref p] H Q := ⟨p, xs, rfl, .inl (SqL.of h), q⟩
theorem a_plen {ps : Lk.PL} (h : PairsAt H p ps) (q : Q (.int (ps.length : Nat)) H) : rLenK K [.ref p] H Q := r_plen h q
theorem a_list (h : H p = some (.lst xs)) (q : ∀ l H', H l = none → Same H H' → H' l = some (.lst xs) → Q (.ref l) H') : rListK K [.ref p] H Q := ⟨p, xs, rfl, .inl (SqL.of h), fun l hl => q l _ hl (Same.new hl) upd_same⟩
theorem a_plist {ps : Lk.PL} (h : PairsAt H p ps) (q : ∀ l H', H l = none → Same H H' → PairsAt H' l ps → Q (.ref l) H') : rListK K [.ref p] H Q := r_listof h q
theorem g_m1 {r : V → List V → Hp → VK → Prop} {to te : TE} {σ : L2.St} (h : tM1 r to te σ H Q) : tM1 r to te σ H Q := h
theorem a_int {i : Int} (q : Q (.int i) H) : rInt1 [.int i] H Q := .inl ⟨i, rfl, q⟩
theorem a_abs {i : Int} (q : Q (.int (if i < 0 then -i else i)) H) : rAbs [.int i] H Q := ⟨i, rfl, q⟩
theorem a_max2 {i j : Int} (q : Q (.int (if j > i then j else i)) H) : rMax2 [.int i, .int j] H Q := ⟨i, j, rfl, q⟩
theorem a_min2 {i j : Int} (q : Q (.int (if j < i then j else i)) H) : rMin2 [.int i, .int j] H Q := ⟨i, j, rfl, q⟩
/-! ### ranges, lists walked, fields, methods: what is asked, kept closed -/
def Rg1 (vs : List V) (R : It → Hp → Prop) (H1 : Hp) : Prop := ∃ j : Int, vs = [.int j] ∧ -(2 ^ 62) ≤ j ∧ j < 2 ^ 62 ∧ R (Itr 0 j.toNat) H1
def Rg2 (vs : List V) (R : It → Hp → Prop) (H1 : Hp) : Prop := ∃ i j : Int, vs = [.int i, .int j] ∧ (-(2 ^ 62) ≤ i ∧ i < 2 ^ 62 ∧ -(2 ^ 62) ≤ j ∧ j < 2 ^ 62) ∧ R (Itr i (j - i).toNat) H1
def IlR (K : PySem.W.Frag) (x : V) (R : It → Hp → Prop) (H1 : Hp) : Prop := ∃ a, x = .ref a ∧ (∃ xs, SqL K H1 a xs) ∧ R (Itl K a) H1
def FlR (K : PySem.W.Frag) (f : Str) (x : V) (Q : VK) (H1 : Hp) : Prop := ∃ a C dx fs v, x = .ref a ∧ H1 a = some (.ins C dx fs) ∧ Cls K C ∧ NoAttr K C f ∧ fs.lookup f = some v ∧ Q v H1
def MR (C : Addr) (m : Str) (x : V) (Z : Addr → Prop) (H1 : Hp) : Prop := ∃ a dx fs, x = .ref a ∧ H1 a = some (.ins C dx fs) ∧ fs.lookup m = none ∧ Z a
section
variable {σ : L2.St} {R : It → Hp → Prop} {ta : TA} {te : TE} {C : Addr} {m f : Str} {sp : Sp} {E : XK}
theorem h_rng1 (h : ta σ H fun vs H1 => Rg1 vs R H1) : iRng1 ta σ H R := h
theorem h_rng2 (h : ta σ H fun vs H1 => Rg2 vs R H1) : iRng2 ta σ H R := h
theorem h_ilist (h : te σ H fun x H1 => IlR K x R H1) : iList K te σ H R := h
theorem h_fld (h : te σ H fun x H1 => FlR K f x Q H1) : tFld K te f σ H Q := h
theorem h_m (h : te σ H fun x H1 => MR C m x (fun a => ta σ H1 fun vs H2 => sp (.ref a :: vs) H2 Q E) H1) : tM C m sp E te ta σ H Q := h
theorem a_r1 {j : Int} (n : Nat) (e : j = (n : Int)) (hn : n ≤ 100000) (h : R (Itr ((0 : Nat) : Int) n) H) : Rg1 [.int j] R H := by
  subst e
  exact ⟨_, rfl, by omega, by omega, h⟩
theorem a_r2 {i j : Int} (a n : Nat) (ei : i = (a : Int)) (ej : j = ((a + n : Nat) : Int)) (hn : a + n ≤ 100000) (h : R (Itr (a : Int) n) H) : Rg2 [.int i, .int j] R H := by
  subst ei; subst ej
  refine ⟨_, _, rfl, ⟨by omega, by omega, by omega, by omega⟩, ?_⟩
  have e : (((a + n : Nat) : Int) - (a : Int)).toNat = n := by omega
  rw [e]
  exact h
theorem a_r2i {i j : Int} (n : Nat) (ej : j = i + n) (hi : -100000 ≤ i ∧ i ≤ 100000) (hn : n ≤ 100000) (h : R (Itr i n) H) : Rg2 [.int i, .int j] R H := by
  subst ej
  refine ⟨_, _, rfl, ⟨by omega, by omega, by omega, by omega⟩, ?_⟩
  have e : (i + (n : Int) - i).toNat = n := by omega
  rw [e]
  exact h
theorem a_il (hs : H p = some (.lst xs)) (h : R (Itl K p) H) : IlR K (.ref p) R H := ⟨p, rfl, ⟨xs, SqL.of hs⟩, h⟩
theorem a_ilS (hs : SqL K H p xs) (h : R (Itl K p) H) : IlR K (.ref p) R H := ⟨p, rfl, ⟨xs, hs⟩, h⟩
end
end
section
variable {K : PySem.W.Frag} {mg : Str → Option Value} {H : Hp} {n : Nat} {l dx la ra fa f q : Addr} {L R F : List V} {ps : Lk.PL} {Q : VK}
theorem fl_size (T : Tx K mg) (h : LnkAt K H l n L R F dx la ra fa) (k : Q (.int (n : Int)) H) : FlR K "size" (.ref l) Q H := f_size T h k
theorem fl_lefts (T : Tx K mg) (h : LnkAt K H l n L R F dx la ra fa) (k : Q (.ref la) H) : FlR K "_lefts" (.ref l) Q H := f_lefts T h k
theorem fl_rights (T : Tx K mg) (h : LnkAt K H l n L R F dx la ra fa) (k : Q (.ref ra) H) : FlR K "_rights" (.ref l) Q H := f_rights T h k
theorem fl_flags (T : Tx K mg) (h : LnkAt K H l n L R F dx la ra fa) (k : Q (.ref fa) H) : FlR K "_flags" (.ref l) Q H := f_flags T h k
theorem fl_fsize (T : Tx K mg) (h : ForAt K H f n ps dx l q) (k : Q (.int (n : Int)) H) : FlR K "size" (.ref f) Q H := f_fsize T h k
theorem fl_links (T : Tx K mg) (h : ForAt K H f n ps dx l q) (k : Q (.ref l) H) : FlR K "_links" (.ref f) Q H := f_links T h k
theorem fl_parents (T : Tx K mg) (h : ForAt K H f n ps dx l q) (k : Q (.ref q) H) : FlR K "_parents" (.ref f) Q H := f_parents T h k
theorem am_l {m : Str} {Z : Addr → Prop} (h : LnkG K H l n L R F) (k : Z l) (hm : (["size", "_lefts", "_rights", "_flags"] : List Str).contains m = false := by decide +kernel) : MR (He.ga K "Links") m (.ref l) Z H := by
  obtain ⟨dx, la, ra, fa, h⟩ := h
  exact ⟨l, dx, _, rfl, h.obj, lf_no hm, k⟩
theorem am_f {m : Str} {Z : Addr → Prop} (h : ForestAt K H f n ps) (k : Z f) (hm : (["size", "_links", "_parents"] : List Str).contains m = false := by decide +kernel) : MR (He.ga K "Forest") m (.ref f) Z H := by
  obtain ⟨dx, l, q, h⟩ := h
  exact ⟨f, dx, _, rfl, h.obj, ff_no hm, k⟩
end
/-! ### comprehensions and loops, kept closed -/
def LcR (J : It) (g : TG) (tt : TT) (te : TE) (vs : List Nat) (σ : L2.St) (Q : VK) (H1 : Hp) : Prop := ∀ D, H1 D = none → ∃ W : Nat → Nat → Hp → Prop, (∃ m, W 0 m (upd H1 D (.lst []))) ∧ ∀ i m H, W i m H →
  (J.stop i H ∧ Q (.ref D) H) ∨ (J.go i H ∧ ∃ Nx : Hp → Prop, (∀ H', Nx H' → ∃ m', m' < m ∧ W (i + 1) m' H') ∧ ∀ x H', J.yld i H x H' → g x (wipe σ vs) H' fun σ2 H2 => wipe σ2 vs = wipe σ vs ∧ tt σ2 H2 fun b H3 =>
    if b = true then te σ2 H3 fun y H4 => ∃ acc, H4 D = some (.lst acc) ∧ acc.length < sizeLine ∧ Nx (upd H4 D (.lst (acc ++ [y]))) else Nx H3)
def ForR (J : It) (g : TG) (tb : TS) (D : Ends) (σ : L2.St) (H1 : Hp) : Prop := ∃ W : Nat → Nat → L2.St → Hp → Prop, (∃ m, W 0 m σ H1) ∧ ∀ i m σ H, W i m σ H →
  (J.stop i H ∧ D.nx σ H) ∨ (J.go i H ∧ ∃ N : L2.St → Hp → Prop, (∀ σ' H', N σ' H' → ∃ m', m' < m ∧ W (i + 1) m' σ' H') ∧ ∀ x H', J.yld i H x H' → g x σ H' fun σ2 H2 => tb { D with nx := N, ct := N, bk := D.nx } σ2 H2)
section
variable {K : PySem.W.Frag} {H : Hp} {Q : VK} {wi : TI} {g : TG} {tb : TS} {D : Ends} {tt : TT} {te : TE} {vs : List Nat} {σ : L2.St}
theorem h_lc (h : wi σ H fun J H1 => LcR J g tt te vs σ Q H1) : tLc wi g tt te vs σ H Q := h
theorem h_for (h : wi σ H fun J H1 => ForR J g tb D σ H1) : tFor wi g tb D σ H := h
theorem l_rN {a n j : Nat} (f : Nat → Bool) (v : Nat → V) (hn : n ≤ 40000) (hw : ∀ x, wipe ((wipe σ vs).set j (some x)) vs = wipe σ vs)
    (ht : ∀ i H1, a ≤ i → i < a + n → Same H H1 → evT tt ((wipe σ vs).set j (some (.int (i : Int)))) H1 (f i)) (he : ∀ i H1, a ≤ i → i < a + n → Same H H1 → f i = true → evE te ((wipe σ vs).set j (some (.int (i : Int)))) H1 (v i))
    (q : ∀ D H', H D = none → Same H H' → H' D = some (.lst (giv a n f v)) → Q (.ref D) H') : LcR (Itr (a : Int) n) (gName j) tt te vs σ Q H := c_rN f v hn hw ht he q
theorem l_list {l : Addr} {xs : List V} {j : Nat} (f : Nat → Bool) (v : Nat → V) (hx : SqL K H l xs) (hn : xs.length ≤ 40000) (hw : ∀ x, wipe ((wipe σ vs).set j (some x)) vs = wipe σ vs)
    (ht : ∀ i x H1, xs[i]? = some x → Same H H1 → evT tt ((wipe σ vs).set j (some x)) H1 (f i)) (he : ∀ i x H1, xs[i]? = some x → Same H H1 → f i = true → evE te ((wipe σ vs).set j (some x)) H1 (v i))
    (q : ∀ D H', H D = none → Same H H' → H' D = some (.lst (giv 0 xs.length f v)) → Q (.ref D) H') : LcR (Itl K l) (gName j) tt te vs σ Q H := c_list f v hx hn hw ht he q
theorem fo_rN {a n : Nat} (Pv : Nat → L2.St → Hp → Prop) (h0 : Pv 0 σ H)
    (hs : ∀ i σ H, i < n → Pv i σ H → g (.int ((a + i : Nat) : Int)) σ H fun σ2 H2 => tb { D with nx := Pv (i + 1), ct := Pv (i + 1), bk := D.nx } σ2 H2) (hd : ∀ σ H, Pv n σ H → D.nx σ H) : ForR (Itr (a : Int) n) g tb D σ H := for_rN Pv h0 hs hd
theorem fo_rI {lo : Int} {n : Nat} (Pv : Nat → L2.St → Hp → Prop) (h0 : Pv 0 σ H)
    (hs : ∀ i σ H, i < n → Pv i σ H → g (.int (lo + i)) σ H fun σ2 H2 => tb { D with nx := Pv (i + 1), ct := Pv (i + 1), bk := D.nx } σ2 H2) (hd : ∀ σ H, Pv n σ H → D.nx σ H) : ForR (Itr lo n) g tb D σ H := for_range Pv h0 hs hd
theorem fo_list {a : Addr} {xs : List V} (Pv : Nat → L2.St → Hp → Prop) (h0 : Pv 0 σ H) (hl : ∀ i σ H, i ≤ xs.length → Pv i σ H → SqL K H a xs)
    (hs : ∀ i x σ H, xs[i]? = some x → Pv i σ H → g x σ H fun σ2 H2 => tb { D with nx := Pv (i + 1), ct := Pv (i + 1), bk := D.nx } σ2 H2) (hd : ∀ σ H, Pv xs.length σ H → D.nx σ H) : ForR (Itl K a) g tb D σ H := for_list Pv h0 hl hs hd
end
def TupR (xs : List V) (Q : VK) (H1 : Hp) : Prop := xs.length ≤ sizeLine ∧ ∀ p, H1 p = none → Q (.ref p) (upd H1 p (.tup xs))
def LstR (xs : List V) (Q : VK) (H1 : Hp) : Prop := xs.length ≤ sizeLine ∧ ∀ p, H1 p = none → Q (.ref p) (upd H1 p (.lst xs))
section
variable {H : Hp} {Q : VK} {xs : List V} {t : TA} {σ : L2.St}
theorem h_lst (h : t σ H fun xs H1 => LstR xs Q H1) : tLst t σ H Q := h
theorem h_tup (h : t σ H fun xs H1 => TupR xs Q H1) : tTup t σ H Q := h
theorem a_lst (q : ∀ p H', H p = none → Same H H' → H' p = some (.lst xs) → Q (.ref p) H') (hl : xs.length ≤ 100000 := by first | decide | simp) : LstR xs Q H := r_lst hl q
theorem a_tup (q : ∀ p H', H p = none → Same H H' → H' p = some (.tup xs) → Q (.ref p) H') (hl : xs.length ≤ 100000 := by first | decide | simp) : TupR xs Q H := r_tup hl q
end
end Lw
set_option Elab.async false
set_option linter.all false
set_option maxRecDepth 100000
set_option maxHeartbeats 4000000
namespace Lw
open PySem PySem.Spec PyProof.Rows L2
theorem a_gtup2 {K : PySem.W.Frag} {i j : Nat} {t : Addr} {v w : V} {σ : L2.St} {H : Hp} {R : L2.St → Hp → Prop} (h : H t = some (.tup [v, w])) (q : R ((σ.set i (some v)).set j (some w)) H) : gTup K 2 (gCons (gName i) (gCons (gName j) gNil)) (.ref t) σ H R :=
  ⟨t, [v, w], rfl, SqT.of h, rfl, v, [w], rfl, w, [], rfl, rfl, q⟩
theorem b_out {ps : Lk.PL} {x a b : Nat} (h : Lk.at_ ps x = some (a, b)) : Lk.at_ ps x ≠ none := by rw [h]; simp
theorem inB_t {ps : Lk.PL} {x : Nat} (h : Lk.at_ ps x = none) : inB ps x = true := decide_eq_true h
theorem inB_f {ps : Lk.PL} {x a b : Nat} (h : Lk.at_ ps x = some (a, b)) : inB ps x = false := decide_eq_false (b_out h)
theorem outB_f {ps : Lk.PL} {x : Nat} (h : Lk.at_ ps x = none) : outB ps x = false := by unfold outB; rw [decide_eq_true h]; rfl
theorem outB_t {ps : Lk.PL} {x a b : Nat} (h : Lk.at_ ps x = some (a, b)) : outB ps x = true := by unfold outB; rw [decide_eq_false (b_out h)]; rfl
/-- pairs[i] is None, is not None, as a test -/
theorem e_isN {K : PySem.W.Frag} {H : Hp} {p : Addr} {ps : Lk.PL} {i : Nat} {Q : VK} {σ : L2.St} (h : PairsAt H p ps) (hi : i < ps.length) (q : Q (.bl (inB ps i)) H) : rIxL K (.ref p) (.int (i : Int)) H fun x H1 => tC .non σ H1 fun y H2 => rIsN x y H2 Q :=
  r_pairs h hi (fun e => r_isN_non (by rw [inB_t e] at q; exact q)) fun a b t e _ => r_isN_ref (by rw [inB_f e] at q; exact q)
theorem e_notN {K : PySem.W.Frag} {H : Hp} {p : Addr} {ps : Lk.PL} {i : Nat} {Q : VK} {σ : L2.St} (h : PairsAt H p ps) (hi : i < ps.length) (q : Q (.bl (outB ps i)) H) : rIxL K (.ref p) (.int (i : Int)) H fun x H1 => tC .non σ H1 fun y H2 => rNotN x y H2 Q :=
  r_pairs h hi (fun e => r_notN_non (by rw [outB_f e] at q; exact q)) fun a b t e _ => r_notN_ref (by rw [outB_t e] at q; exact q)
/-- pairs[i][0], pairs[i][1] -/
theorem e_fst {K : PySem.W.Frag} {H : Hp} {p : Addr} {ps : Lk.PL} {i a b : Nat} {Q : VK} {σ : L2.St} (h : PairsAt H p ps) (e : Lk.at_ ps i = some (a, b)) (q : Q (.int (a : Int)) H) : rIxL K (.ref p) (.int (i : Int)) H fun x H1 => tC (.int 0) σ H1 fun y H2 => rIxT K x y H2 Q :=
  r_pairsS h e fun t ht => r_tup0 ht q
theorem e_snd {K : PySem.W.Frag} {H : Hp} {p : Addr} {ps : Lk.PL} {i a b : Nat} {Q : VK} {σ : L2.St} (h : PairsAt H p ps) (e : Lk.at_ ps i = some (a, b)) (q : Q (.int (b : Int)) H) : rIxL K (.ref p) (.int (i : Int)) H fun x H1 => tC (.int 1) σ H1 fun y H2 => rIxT K x y H2 Q :=
  r_pairsS h e fun t ht => r_tup1 ht q
theorem i_b {b : Bool} {A B : Prop} (h1 : b = true → A) (h2 : b = false → B) : if b = true then A else B := by
  cases b with
  | true => exact i_true (h1 rfl)
  | false => exact i_false (h2 rfl)
theorem inB_iff {ps : Lk.PL} {x : Nat} : inB ps x = true → Lk.at_ ps x = none := of_decide_eq_true
theorem inB_some {ps : Lk.PL} {x : Nat} (h : inB ps x = false) : ∃ a b, Lk.at_ ps x = some (a, b) := Lk.ne_none (of_decide_eq_false h)
theorem outB_iff {ps : Lk.PL} {x : Nat} (h : outB ps x = false) : Lk.at_ ps x = none := by
  unfold outB at h
  by_cases e : Lk.at_ ps x = none
  · exact e
  · rw [decide_eq_false e] at h; cases h
theorem outB_some {ps : Lk.PL} {x : Nat} (h : outB ps x = true) : ∃ a b, Lk.at_ ps x = some (a, b) := by
  apply Lk.ne_none
  intro e
  rw [outB_f e] at h
  cases h
/-- the entries are in range -/
def Bd (ps : Lk.PL) : Prop := ∀ {x a b : Nat}, Lk.at_ ps x = some (a, b) → a < ps.length ∧ b < ps.length
theorem OKBd {n : Nat} {ps : Lk.PL} (o : Lk.OK n ps) : Bd ps := fun h => by
  have r := o.rng h
  have l := o.len
  omega
def topB (ps : Lk.PL) (x : Nat) : Bool := match Lk.at_ ps x with
  | none => false
  | some (a, b) => inB ps a && inB ps b
theorem topB_none {ps : Lk.PL} {x : Nat} (h : Lk.at_ ps x = none) : topB ps x = false := by unfold topB; rw [h]
theorem topB_some {ps : Lk.PL} {x a b : Nat} (h : Lk.at_ ps x = some (a, b)) : topB ps x = (inB ps a && inB ps b) := by unfold topB; rw [h]
theorem topB_iff {ps : Lk.PL} {x : Nat} : topB ps x = true ↔ Lk.isTop ps x := by
  constructor
  · intro h
    rcases Lk.opt2 (Lk.at_ ps x) with e | ⟨a, b, e⟩
    · rw [topB_none e] at h; cases h
    · rw [topB_some e] at h
      obtain ⟨h1, h2⟩ := Bool.and_eq_true_iff.mp h
      exact ⟨a, b, e, inB_iff h1, inB_iff h2⟩
  · rintro ⟨a, b, e, h1, h2⟩
    rw [topB_some e, inB_t h1, inB_t h2]
    rfl
/-! ### lists that are changed -/
theorem a_app {H : Hp} {l : Addr} {xs : List V} {y : V} {Q : VK} (h : H l = some (.lst xs)) (hl : xs.length < 100000) (q : ∀ H', H' l = some (.lst (xs ++ [y])) → (∀ b, b ≠ l → H' b = H b) → Q .non H') : rAppend (.ref l) [y] H Q :=
  ⟨l, xs, y, rfl, rfl, h, szl hl, q _ upd_same fun b hb => upd_ne hb⟩
theorem a_set {H : Hp} {l : Addr} {xs : List V} {k : Nat} {v : V} {R : Hp → Prop} (h : H l = some (.lst xs)) (hk : k < xs.length) (q : ∀ H', H' l = some (.lst (xs.set k v)) → (∀ b, b ≠ l → H' b = H b) → R H') : rSetL (.ref l) (.int (k : Int)) v H R :=
  r_setl h hk (q _ upd_same fun b hb => upd_ne hb)
theorem Same.but {H0 H H' : Hp} {l : Addr} (e : Same H0 H) (hl : H0 l = none) (h : ∀ b, b ≠ l → H' b = H b) : Same H0 H' := fun b o hb => by
  rw [h b (ne_of_none hb hl)]
  exact e b o hb
theorem but_seq {K : PySem.W.Frag} {H H' : Hp} {l a : Addr} {xs ys : List V} (h : ∀ b, b ≠ l → H' b = H b) (hl : H l = some (.lst ys)) (ha : H a = some (.lst xs)) (ne : a ≠ l) : H' a = some (.lst xs) := by rw [h a ne]; exact ha
theorem isi_int {K : PySem.W.Frag} {H : Hp} {Q : VK} {i : Int} (q : Q (.bl true) H) : rIsi K [.int i, .ty "int"] H Q := ⟨_, _, .type "int", .type "int", true, rfl, .ty _, .base (.int i), kit_ty (by decide +kernel), q⟩
theorem isi_intb {K : PySem.W.Frag} {H : Hp} {Q : VK} {i : Int} (q : Q (.bl false) H) : rIsi K [.int i, .ty "bool"] H Q := ⟨_, _, .type "int", .type "bool", false, rfl, .ty _, .base (.int i), kit_ty (by decide +kernel), q⟩
theorem isi_lst {K : PySem.W.Frag} {H : Hp} {Q : VK} {a : Addr} {xs : List V} (h : H a = some (.lst xs)) (q : Q (.bl true) H) : rIsi K [.ref a, .ty "list"] H Q := ⟨_, _, .type "list", .type "list", true, rfl, .ty _, .base (.lst h), kit_ty (by decide +kernel), q⟩
/-! ### the purse -/
structure PurAt (H : Hp) (p c : Addr) (cs : List Int) (i b s a : Int) : Prop where
  obj : H p = some (.lst [.ref c, .int i, .int b, .int s, .int a])
  cells : H c = some (.lst (cs.map V.int))
  ne : c ≠ p
  i0 : 0 ≤ i
def PurseAt (H : Hp) (p : Addr) : Prop := ∃ c cs i b s a, PurAt H p c cs i b s a
/-- all but the purse -/
def Bt (p : Addr) (H H' : Hp) : Prop := ∀ b, b ≠ p → H' b = H b
theorem Bt.refl (p : Addr) (H : Hp) : Bt p H H := fun _ _ => rfl
theorem Bt.trans {p : Addr} {H H1 H2 : Hp} (a : Bt p H H1) (b : Bt p H1 H2) : Bt p H H2 := fun c hc => (b c hc).trans (a c hc)
/-- all that stood, but the purse -/
def Sb (p : Addr) (H H' : Hp) : Prop := ∀ b o, b ≠ p → H b = some o → H' b = some o
theorem Sb.refl (p : Addr) (H : Hp) : Sb p H H := fun _ _ _ h => h
theorem Sb.trans {p : Addr} {H H1 H2 : Hp} (a : Sb p H H1) (b : Sb p H1 H2) : Sb p H H2 := fun c o hc h => b c o hc (a c o hc h)
theorem Same.sb {p : Addr} {H H' : Hp} (e : Same H H') : Sb p H H' := fun b o _ h => e b o h
theorem Bt.sb {p : Addr} {H H' : Hp} (e : Bt p H H') : Sb p H H' := fun b o hb h => by rw [e b hb]; exact h
theorem PurseAt.mono {H H' : Hp} {p : Addr} (e : Same H H') (h : PurseAt H p) : PurseAt H' p := by
  obtain ⟨c, cs, i, b, s, a, h⟩ := h
  exact ⟨c, cs, i, b, s, a, e _ _ h.obj, e _ _ h.cells, h.ne, h.i0⟩
end Lw
set_option linter.all false
set_option maxRecDepth 100000
namespace Lk
/-! ### lists filtered -/
theorem flt_same {l : List Nat} {f g : Nat → Bool} (h : ∀ y ∈ l, g y = f y) : l.filter g = l.filter f := List.filter_congr h
theorem flt_one : ∀ {l : List Nat}, l.Nodup → ∀ {x : Nat}, x ∈ l → ∀ {f g : Nat → Bool}, f x = true → g x = false → (∀ y, y ≠ x → g y = f y) → (l.filter g).length + 1 = (l.filter f).length
  | [], _, x, hx, _, _, _, _, _ => by cases hx
  | y :: l, nd, x, hx, f, g, hf, hg, h => by
    obtain ⟨n1, n2⟩ := List.nodup_cons.mp nd
    by_cases e : y = x
    · subst e
      rw [List.filter_cons, List.filter_cons, if_pos hf, if_neg (by rw [hg]; decide), List.length_cons]
      rw [flt_same (fun z hz => h z (fun q => n1 (q ▸ hz)))]
    · have hx' : x ∈ l := by
        rcases List.mem_cons.mp hx with q | q
        · exact absurd q.symm e
        · exact q
      have ih := flt_one n2 hx' hf hg h
      rw [List.filter_cons, List.filter_cons, h y e]
      by_cases hy : f y = true
      · rw [if_pos hy, if_pos hy, List.length_cons, List.length_cons]
        omega
      · rw [if_neg hy, if_neg hy]
        exact ih
def cntIn (n : Nat) (ps : PL) : Nat := ((List.range' 1 n).filter fun i => decide (at_ ps i = none)).length
theorem cntIn_whole (n : Nat) : cntIn n (List.replicate (n + 2) none) = n := by
  unfold cntIn
  rw [List.filter_eq_self.mpr (fun i _ => decide_eq_true at_repl), List.length_range']
theorem cntIn_unl {n : Nat} {ps : PL} (hl : ps.length = n + 2) {x : Nat} (h1 : 1 ≤ x) (h2 : x ≤ n) (hx : at_ ps x = none) : cntIn n (unl ps x) + 1 = cntIn n ps := by
  unfold cntIn unl
  refine flt_one List.nodup_range' (List.mem_range'_1.mpr ⟨h1, by omega⟩) (decide_eq_true hx) ?_ fun y hy => ?_
  · rw [at_set_self (by omega)]
    rfl
  · rw [at_set_ne hy]
theorem unl_len {ps : PL} {x : Nat} : (unl ps x).length = ps.length := by unfold unl; rw [List.length_set]
theorem rel_len {ps : PL} {x : Nat} : (rel ps x).length = ps.length := by unfold rel; rw [List.length_set]
end Lk
set_option Elab.async false
set_option linter.all false
set_option maxRecDepth 100000
set_option maxHeartbeats 4000000
namespace Lw
open PySem PySem.Spec PyProof.Rows L2
theorem PvAt.bt {H H' : Hp} {p : Addr} {xs : List V} {o : Option (Nat × Nat)} {v : V} (hp : H p = some (.lst xs)) (e : Bt p H H') (h : PvAt H o v) : PvAt H' o v := by
  rcases h with h | ⟨a, b, t, h1, h2, h3⟩
  · exact .inl h
  · refine .inr ⟨a, b, t, h1, h2, ?_⟩
    rw [e t (ne_of h3 hp (by intro q; cases q))]
    exact h3
theorem PairsAt.bt {H H' : Hp} {p l : Addr} {ps : Lk.PL} (hp : PurseAt H p) (hl : l ≠ p) (e : Bt p H H') (h : PairsAt H l ps) : PairsAt H' l ps := by
  obtain ⟨xs, h1, h2, h3⟩ := h.ex
  obtain ⟨c, cs, i, b, s, a, hp⟩ := hp
  exact ⟨xs, by rw [e l hl]; exact h1, h2, fun i o hi => by
    obtain ⟨v, hv, q⟩ := h3 i o hi
    exact ⟨v, hv, q.bt hp.obj e⟩⟩
theorem PurseAt.ne {H : Hp} {p l : Addr} (hp : PurseAt H p) (hl : H l = none) : l ≠ p := by
  obtain ⟨c, cs, i, b, s, a, hp⟩ := hp
  intro e
  rw [e, hp.obj] at hl
  cases hl
/-- [None] * n -/
theorem PairsAt.none {H : Hp} {l : Addr} {n : Nat} (h : H l = some (.lst (List.replicate n .non))) : PairsAt H l (List.replicate n none) :=
  ⟨_, h, by rw [List.length_replicate, List.length_replicate], fun i o hi => by
    rw [List.getElem?_replicate] at hi
    split at hi
    · cases hi
      exact ⟨.non, by rw [List.getElem?_replicate, if_pos (by assumption)], .inl ⟨rfl, rfl⟩⟩
    · cases hi⟩
end Lw
set_option linter.all false
set_option maxRecDepth 100000
namespace Lk
/-- the widths multiplied -/
def prodW (ps : PL) (xs : List Nat) : Nat := xs.foldl (fun a x => a * (lR ps x - lL ps x - 1)) 1
theorem prodW_snoc (ps : PL) (xs : List Nat) (x : Nat) : prodW ps (xs ++ [x]) = prodW ps xs * (lR ps x - lL ps x - 1) := by
  unfold prodW
  rw [List.foldl_append]
  rfl
theorem foldl_mul (f : Nat → Nat) : ∀ (xs : List Nat) (a b : Nat), xs.foldl (fun a x => a * f x) (a * b) = a * xs.foldl (fun a x => a * f x) b
  | [], a, b => rfl
  | x :: xs, a, b => by
    rw [List.foldl_cons, List.foldl_cons, Nat.mul_assoc]
    exact foldl_mul f xs a (b * f x)
theorem prodW_cons (ps : PL) (xs : List Nat) (x : Nat) : prodW ps (x :: xs) = (lR ps x - lL ps x - 1) * prodW ps xs := by
  unfold prodW
  rw [List.foldl_cons]
  have := foldl_mul (fun x => lR ps x - lL ps x - 1) xs (lR ps x - lL ps x - 1) 1
  rw [Nat.one_mul, Nat.mul_one] at *
  exact this
theorem prodW_pos {ps : PL} : ∀ {xs : List Nat}, (∀ x ∈ xs, 1 ≤ lR ps x - lL ps x - 1) → 1 ≤ prodW ps xs
  | [], _ => Nat.le_refl _
  | x :: xs, h => by
    rw [prodW_cons]
    exact Nat.mul_pos (h x (List.mem_cons_self ..)) (prodW_pos fun y hy => h y (List.mem_cons_of_mem _ hy))
theorem prodW_le {ps : PL} : ∀ {xs : List Nat}, (∀ x ∈ xs, lR ps x - lL ps x - 1 ≤ 64) → prodW ps xs ≤ 64 ^ xs.length
  | [], _ => Nat.le_refl _
  | x :: xs, h => by
    rw [prodW_cons, List.length_cons, Nat.pow_succ, Nat.mul_comm]
    exact Nat.mul_le_mul (prodW_le fun y hy => h y (List.mem_cons_of_mem _ hy)) (h x (List.mem_cons_self ..))
end Lk
set_option Elab.async false
set_option linter.all false
set_option maxRecDepth 100000
set_option maxHeartbeats 4000000
namespace Lw
open PySem PySem.Spec PyProof.Rows L2
theorem i_yes {c : Prop} [Decidable c] {A B : Prop} (h : c) (k : A) : if decide c = true then A else B := by rw [decide_eq_true h, if_pos rfl]; exact k
theorem i_no {c : Prop} [Decidable c] {A B : Prop} (h : ¬ c) (k : B) : if decide c = true then A else B := by rw [decide_eq_false h, if_neg Bool.false_ne_true]; exact k
theorem n_yes {c : Prop} [Decidable c] {A B : Prop} (h : c) (k : B) : if (!decide c) = true then A else B := by rw [decide_eq_true h]; exact i_false k
theorem n_no {c : Prop} [Decidable c] {A B : Prop} (h : ¬ c) (k : A) : if (!decide c) = true then A else B := by rw [decide_eq_false h]; exact i_true k
theorem b_yes {c : Bool} {A B : Prop} (h : c = true) (k : A) : if c = true then A else B := by rw [if_pos h]; exact k
theorem b_no {c : Bool} {A B : Prop} (h : c = false) (k : B) : if c = true then A else B := by rw [h]; exact i_false k
theorem nb_yes {c : Bool} {A B : Prop} (h : c = true) (k : B) : if (!c) = true then A else B := by rw [h]; exact i_false k
theorem nb_no {c : Bool} {A B : Prop} (h : c = false) (k : A) : if (!c) = true then A else B := by rw [h]; exact i_true k
/-! ### the links of a standing -/
theorem leftV_pos {ps : Lk.PL} {x : Nat} (h : 1 ≤ x) : leftV ps x = .int (Lk.lL ps x : Int) := by unfold leftV; rw [if_neg (by omega)]
theorem rightV_le {n : Nat} {ps : Lk.PL} {x : Nat} (h : x ≤ n) : rightV n ps x = .int (Lk.lR ps x : Int) := by unfold rightV; rw [if_neg (by omega)]
theorem flag_t {ps : Lk.PL} {x a b : Nat} (h : Lk.at_ ps x = some (a, b)) : flagV ps x = .bl true := by unfold flagV; rw [h]; rfl
theorem flag_f {ps : Lk.PL} {x : Nat} (h : Lk.at_ ps x = none) : flagV ps x = .bl false := by unfold flagV; rw [h]; rfl
theorem flag_out (ps : Lk.PL) (x : Nat) : flagV ps x = .bl (outB ps x) := by
  rcases Lk.opt2 (Lk.at_ ps x) with e | ⟨a, b, e⟩
  · rw [flag_f e, outB_f e]
  · rw [flag_t e, outB_t e]
theorem par_t {ps : Lk.PL} {x : Nat} (h : Lk.at_ ps x ≠ none) : parV ps x = .int (Lk.par ps x : Int) := by
  obtain ⟨a, b, e⟩ := Lk.ne_none h
  unfold parV; rw [e]; rfl
theorem par_f {ps : Lk.PL} {x : Nat} (h : Lk.at_ ps x = none) : parV ps x = .int (-1) := by unfold parV; rw [h]; rfl
end Lw
namespace Lk
/-- the links of every node are in range -/
theorem OK.links {n : Nat} {ps : PL} (o : OK n ps) {x : Nat} (h1 : 1 ≤ x) (h2 : x ≤ n) : lL ps x < x ∧ x < lR ps x ∧ lR ps x ≤ n + 1 := by
  rcases opt2 (at_ ps x) with e | ⟨a, b, e⟩
  · rw [lL_none e, lR_none e]
    have L := lowIn_at o.h0 x h1
    have R := highIn_at ps x
    refine ⟨L.lt, R.lt, ?_⟩
    apply Nat.le_of_not_lt
    intro h
    exact R.mid (n + 1) (by omega) h o.hn
  · rw [lL_some e, lR_some e]
    have := o.rng e
    omega
end Lk
set_option Elab.async false
set_option linter.all false
set_option maxRecDepth 100000
set_option maxHeartbeats 4000000
namespace Lw
open PySem PySem.Spec PyProof.Rows L2
local macro_rules | `(tactic| walk_at "h") => `(tactic| first | assumption | (refine (by assumption : Same _ _) _ _ ?_; walk_at "h"))
local macro_rules | `(tactic| walk_at "g1") => `(tactic| first
  | with_reducible refine g_seq ?_ | with_reducible refine g_asg ?_ | with_reducible refine g_name ?_ | with_reducible refine g_drop ?_ | with_reducible refine g_ret ?_ | with_reducible refine g_retN ?_
  | with_reducible refine g_next ?_ | with_reducible refine g_brk ?_ | with_reducible refine g_cont ?_ | with_reducible refine g_if ?_ | ((with_reducible show tVar _ _ _ _); refine ⟨_, rfl, ?_⟩) | with_reducible refine g_c ?_
  | with_reducible refine g_op ?_ | with_reducible refine g_un ?_ | with_reducible refine g_ifE ?_ | with_reducible refine g_test ?_ | with_reducible refine g_B ?_ | with_reducible refine g_and ?_ | with_reducible refine g_or ?_ | with_reducible refine g_not ?_
  | with_reducible refine g_andV ?_ | with_reducible refine g_orV ?_ | with_reducible refine g_notV ?_ | with_reducible refine g_nil ?_ | with_reducible refine g_cons ?_ | with_reducible refine g_cb ?_ | with_reducible refine g_f ?_
  | with_reducible refine g_bl ?_ | with_reducible refine g_blV ?_ | with_reducible refine g_part ?_ | with_reducible refine g_nopart ?_ | with_reducible refine g_sl ?_ | with_reducible refine g_intx ?_
  | with_reducible refine r_i0 ?_ | with_reducible refine r_eqi ?_ | with_reducible refine r_nei ?_ | with_reducible refine r_u ?_
  | with_reducible refine r_isN_non ?_ | with_reducible refine r_isN_ref ?_ | with_reducible refine r_isN_int ?_ | with_reducible refine r_notN_non ?_ | with_reducible refine r_notN_ref ?_
  | with_reducible refine h_lc ?_ | with_reducible refine h_for ?_ | with_reducible refine h_rng1 ?_ | with_reducible refine h_rng2 ?_ | with_reducible refine h_ilist ?_ | with_reducible refine h_lst ?_ | with_reducible refine h_tup ?_
  | with_reducible refine h_fld ?_ | with_reducible refine h_m ?_ | with_reducible refine g_sm ?_ | with_reducible refine g_cm ?_ | with_reducible refine g_mk ?_ | with_reducible refine g_chain ?_ | with_reducible refine g_asgsub ?_ | with_reducible refine g_sfld ?_
  | with_reducible refine g_bm ?_ | with_reducible refine g_bm0 ?_
  | ((with_reducible refine' r_tup0 ?gh ?_); (case gh => walk_at "h")) | ((with_reducible refine' r_tup1 ?gh ?_); (case gh => walk_at "h"))
  | ((with_reducible refine' And.intro (ty_lst ?gh) ?_); (case gh => walk_at "h"))
  | with_reducible refine i_true ?_ | with_reducible refine i_false ?_)
local macro_rules | `(tactic| walk_at "go") => `(tactic| ((repeat' walk_at "g1"); (try dsimp only)))
section
variable {P : Program} {w : World} {K : PySem.W.Frag} {mg : Str → Option Value} {base : Heap}
theorem sc_check_size : FnScope ["size"] ["size"] (defScope s_check_size) := ⟨rfl, rfl, rfl, by decide +kernel, rfl, by decide +kernel, by decide +kernel⟩
theorem bd_check_size : BindsP "check_size" "check_size" s_check_size ["size"] := fun _ _ _ _ _ _ us hl => match us, hl with | [_], _ => rfl
def sp_check_size : Sp := fun vs H Q _ => ∃ (n : Nat), vs = [.int (n : Int)] ∧ n ≤ 60 ∧ Q .non H
set_option maxHeartbeats 4000000 in
theorem ok_check_size (T : Tx K mg) : FnR P w K mg base CX0 1 (He.ga K "check_size") (sp_check_size ) := by
  refine (T.F_check_size).ok sc_check_size bd_check_size (fun vs H Q E h => ?_) (fun cdv A outer s H vs Q E hr h => ?_)
  · obtain ⟨n, rfl, _⟩ := h
    rfl
  · obtain ⟨n, rfl, hn, q⟩ := h
    refine ⟨_, (pss_one (ps_if (pt_not (pt_chain op_le op_le pe_int (pv 0) (pe_gi rfl T.g_MOST_NODES))) (pss_one ps_never) pss_nil)), ?_⟩
    walk_at "go"
    refine i_yes (by omega) ?_
    walk_at "go"
    refine n_yes (by omega) ?_
    walk_at "go"
    exact q
theorem sc_check_operation : FnScope ["size", "operation", "index"] ["size", "operation", "index"] (defScope s_check_operation) := ⟨rfl, rfl, rfl, by decide +kernel, rfl, by decide +kernel, by decide +kernel⟩
theorem bd_check_operation : BindsP "check_operation" "check_operation" s_check_operation ["size", "operation", "index"] := fun _ _ _ _ _ _ us hl => match us, hl with | [_, _, _], _ => rfl
def sp_check_operation : Sp := fun vs H Q _ => ∃ (n : Nat) (i j : Int), vs = [.int (n : Int), .int i, .int j] ∧ i ≠ 0 ∧ i ≤ n ∧ -i ≤ n ∧ Q .non H
set_option maxHeartbeats 4000000 in
theorem ok_check_operation (T : Tx K mg) : FnR P w K mg base CX0 1 (He.ga K "check_operation") (sp_check_operation ) := by
  refine (T.F_check_operation).ok sc_check_operation bd_check_operation (fun vs H Q E h => ?_) (fun cdv A outer s H vs Q E hr h => ?_)
  · obtain ⟨n, i, j, rfl, _⟩ := h
    rfl
  · obtain ⟨n, i, j, rfl, h0, h1, h2, q⟩ := h
    refine ⟨_, (pss_one (ps_if (PW.pt (pw_or (pt_cmpR op_eq (pv 1) pe_int (nomark _)) (pw_or1 (pt_cmpR op_gt (pe_callB absR (by rfl) T.n_abs (by decide +kernel) (pa_cons (pv 1) pa_nil)) (pv 0) (nomark _))))) (pss_one ps_never) pss_nil)), ?_⟩
    walk_at "go"
    refine i_no (by omega) ?_
    walk_at "go"
    refine a_abs ?_
    walk_at "go"
    refine i_no (by split <;> omega) ?_
    walk_at "go"
    exact q
theorem sc_Links_left : FnScope ["self", "node"] ["self", "node"] (defScope s_Links_left) := ⟨rfl, rfl, rfl, by decide +kernel, rfl, by decide +kernel, by decide +kernel⟩
theorem bd_Links_left : BindsP "left" "Links.left" s_Links_left ["self", "node"] := fun _ _ _ _ _ _ us hl => match us, hl with | [_, _], _ => rfl
def sp_Links_left (K : PySem.W.Frag) : Sp := fun vs H Q _ => ∃ (l : Addr) (n x : Nat) (L R F : List V) (v : V), vs = [.ref l, .int (x : Int)] ∧ LnkG K H l n L R F ∧ 1 ≤ x ∧ x ≤ n + 1 ∧ L[x]? = some v ∧ Q v H
set_option maxHeartbeats 4000000 in
theorem ok_Links_left (T : Tx K mg) : FnR P w K mg base CX0 1 (He.ma K (He.ga K "Links") "left") (sp_Links_left K) := by
  refine (T.F_Links_left).ok sc_Links_left bd_Links_left (fun vs H Q E h => ?_) (fun cdv A outer s H vs Q E hr h => ?_)
  · obtain ⟨l, n, x, L, R, F, v, rfl, _⟩ := h
    rfl
  · obtain ⟨l, n, x, L, R, F, v, rfl, ⟨dx, la, ra, fa, hl⟩, h1, h2, hv, q⟩ := h
    refine ⟨_, (pss_cons (ps_if (pt_not (pt_chain op_le op_le pe_int (pv 1) (pe_op op_add (fldK (K := K) rfl (pv 0)) pe_int))) (pss_one ps_never) pss_nil) (pss_one (ps_ret (pe_ix (ixl (K := K) rfl) (fldK (K := K) rfl (pv 0)) (pv 1) (fun _ _ => rfl))))), ?_⟩
    walk_at "go"
    refine i_yes (by omega) ?_
    walk_at "go"
    refine fl_size T hl ?_
    walk_at "go"
    refine n_yes (by omega) ?_
    walk_at "go"
    refine fl_lefts T hl ?_
    walk_at "go"
    exact r_ixl hl.l_ hv q
theorem sc_Links_right : FnScope ["self", "node"] ["self", "node"] (defScope s_Links_right) := ⟨rfl, rfl, rfl, by decide +kernel, rfl, by decide +kernel, by decide +kernel⟩
theorem bd_Links_right : BindsP "right" "Links.right" s_Links_right ["self", "node"] := fun _ _ _ _ _ _ us hl => match us, hl with | [_, _], _ => rfl
def sp_Links_right (K : PySem.W.Frag) : Sp := fun vs H Q _ => ∃ (l : Addr) (n x : Nat) (L R F : List V) (v : V), vs = [.ref l, .int (x : Int)] ∧ LnkG K H l n L R F ∧ x ≤ n ∧ R[x]? = some v ∧ Q v H
set_option maxHeartbeats 4000000 in
theorem ok_Links_right (T : Tx K mg) : FnR P w K mg base CX0 1 (He.ma K (He.ga K "Links") "right") (sp_Links_right K) := by
  refine (T.F_Links_right).ok sc_Links_right bd_Links_right (fun vs H Q E h => ?_) (fun cdv A outer s H vs Q E hr h => ?_)
  · obtain ⟨l, n, x, L, R, F, v, rfl, _⟩ := h
    rfl
  · obtain ⟨l, n, x, L, R, F, v, rfl, ⟨dx, la, ra, fa, hl⟩, h2, hv, q⟩ := h
    refine ⟨_, (pss_cons (ps_if (pt_not (pt_chain op_le op_le pe_int (pv 1) (fldK (K := K) rfl (pv 0)))) (pss_one ps_never) pss_nil) (pss_one (ps_ret (pe_ix (ixl (K := K) rfl) (fldK (K := K) rfl (pv 0)) (pv 1) (fun _ _ => rfl))))), ?_⟩
    walk_at "go"
    refine i_yes (by omega) ?_
    walk_at "go"
    refine fl_size T hl ?_
    walk_at "go"
    refine n_yes (by omega) ?_
    walk_at "go"
    refine fl_rights T hl ?_
    walk_at "go"
    exact r_ixl hl.r_ hv q
theorem sc_Links_is_out : FnScope ["self", "node"] ["self", "node"] (defScope s_Links_is_out) := ⟨rfl, rfl, rfl, by decide +kernel, rfl, by decide +kernel, by decide +kernel⟩
theorem bd_Links_is_out : BindsP "is_out" "Links.is_out" s_Links_is_out ["self", "node"] := fun _ _ _ _ _ _ us hl => match us, hl with | [_, _], _ => rfl
def sp_Links_is_out (K : PySem.W.Frag) : Sp := fun vs H Q _ => ∃ (l : Addr) (n x : Nat) (L R F : List V) (v : V), vs = [.ref l, .int (x : Int)] ∧ LnkG K H l n L R F ∧ x ≤ n + 1 ∧ F[x]? = some v ∧ Q v H
set_option maxHeartbeats 4000000 in
theorem ok_Links_is_out (T : Tx K mg) : FnR P w K mg base CX0 1 (He.ma K (He.ga K "Links") "is_out") (sp_Links_is_out K) := by
  refine (T.F_Links_is_out).ok sc_Links_is_out bd_Links_is_out (fun vs H Q E h => ?_) (fun cdv A outer s H vs Q E hr h => ?_)
  · obtain ⟨l, n, x, L, R, F, v, rfl, _⟩ := h
    rfl
  · obtain ⟨l, n, x, L, R, F, v, rfl, ⟨dx, la, ra, fa, hl⟩, h2, hv, q⟩ := h
    refine ⟨_, (pss_cons (ps_if (pt_not (pt_chain op_le op_le pe_int (pv 1) (pe_op op_add (fldK (K := K) rfl (pv 0)) pe_int))) (pss_one ps_never) pss_nil) (pss_one (ps_ret (pe_ix (ixl (K := K) rfl) (fldK (K := K) rfl (pv 0)) (pv 1) (fun _ _ => rfl))))), ?_⟩
    walk_at "go"
    refine i_yes (by omega) ?_
    walk_at "go"
    refine fl_size T hl ?_
    walk_at "go"
    refine n_yes (by omega) ?_
    walk_at "go"
    refine fl_flags T hl ?_
    walk_at "go"
    exact r_ixl hl.f_ hv q
theorem sc_Links_outs : FnScope ["self", "node"] ["self"] (defScope s_Links_outs) := ⟨rfl, rfl, rfl, by decide +kernel, rfl, by decide +kernel, by decide +kernel⟩
theorem bd_Links_outs : BindsP "outs" "Links.outs" s_Links_outs ["self"] := fun _ _ _ _ _ _ us hl => match us, hl with | [_], _ => rfl
def sp_Links_outs (K : PySem.W.Frag) : Sp := fun vs H Q _ => ∃ (l : Addr) (n : Nat) (ps : Lk.PL), vs = [.ref l] ∧ LinksAt K H l n ps ∧ n ≤ 60 ∧ ∀ p' H', H p' = none → Same H H' → H' p' = some (.lst (intsV ((List.range' 1 n).filter (outB ps)))) → Q (.ref p') H'
set_option maxHeartbeats 4000000 in
theorem ok_Links_outs (T : Tx K mg) : FnR P w K mg base CX0 1 (He.ma K (He.ga K "Links") "outs") (sp_Links_outs K) := by
  refine (T.F_Links_outs).ok sc_Links_outs bd_Links_outs (fun vs H Q E h => ?_) (fun cdv A outer s H vs Q E hr h => ?_)
  · obtain ⟨l, n, ps, rfl, _⟩ := h
    rfl
  · obtain ⟨l, n, ps, rfl, ⟨dx, la, ra, fa, hl⟩, hn, q⟩ := h
    refine ⟨_, (pss_one (ps_ret (pe_lc (own := [("node", 1)]) (g := gName 1) rfl sc_Links_outs.nd (pi_range2 rfl T.n_range (pa_cons pe_int (pa_cons (pe_op op_add (fldK (K := K) rfl (pv 0)) pe_int) pa_nil))) (blkOk_by (own := [("node", 1)]) (N := ["self", "node"]) (sc := defScope s_Links_outs) (by decide +kernel)) (fun _ _ _ _ _ => pg_name (i := 1) sc_Links_outs.nd rfl (Or.inl rfl)) (fun _ _ _ _ _ => (pts_one (pt_val (pe_ix (ixl (K := K) rfl) (fldK (K := K) rfl (pv 0)) (pv 1) (fun _ _ => rfl))))) (fun _ _ _ _ _ => (pv 1))))), ?_⟩
    walk_at "go"
    refine fl_size T hl ?_
    walk_at "go"
    refine a_r2 1 n rfl (by omega) (by omega) ?_
    refine l_rN (outB ps) (fun i => .int (i : Int)) (by omega) (fun _ => rfl) (fun i H1 _ hi e R k => ?_) (fun i H1 _ hi e hf R k => ?_) (fun D H1 hD e1 hd => ?_)
    · have hl1 := hl.mono e
      walk_at "go"
      refine fl_flags T hl1 ?_
      walk_at "go"
      refine r_ixl hl1.f_ (listV_get (by omega)) ?_
      rw [flag_out]
      walk_at "go"
      exact k H1 (Same.refl _)
    · walk_at "go"
      exact k H1 (Same.refl _)
    exact q D H1 hD e1 hd
theorem sc_parent_of : FnScope ["links", "node", "low", "high"] ["links", "node"] (defScope s_parent_of) := ⟨rfl, rfl, rfl, by decide +kernel, rfl, by decide +kernel, by decide +kernel⟩
theorem bd_parent_of : BindsP "parent_of" "parent_of" s_parent_of ["links", "node"] := fun _ _ _ _ _ _ us hl => match us, hl with | [_, _], _ => rfl
def sp_parent_of (K : PySem.W.Frag) : Sp := fun vs H Q _ => ∃ (l : Addr) (n x : Nat) (ps : Lk.PL), vs = [.ref l, .int (x : Int)] ∧ LinksAt K H l n ps ∧ Lk.OK n ps ∧ Lk.at_ ps x ≠ none ∧ Q (.int (Lk.par ps x : Int)) H
set_option maxHeartbeats 4000000 in
theorem ok_parent_of (T : Tx K mg) : FnR P w K mg base CX0 2 (He.ga K "parent_of") (sp_parent_of K) := by
  refine (T.F_parent_of).ok sc_parent_of bd_parent_of (fun vs H Q E h => ?_) (fun cdv A outer s H vs Q E hr h => ?_)
  · obtain ⟨l, n, x, ps, rfl, _⟩ := h
    rfl
  · obtain ⟨l, n, x, ps, rfl, hl, o, hx, q⟩ := h
    refine ⟨_, (pss_cons (ps_set (i := 2) sc_parent_of.nd rfl (by first | exact Or.inl rfl | exact Or.inr rfl) (pe_m (pv 0) T.cLinks T.mLinks_left (ok_Links_left T) (hr.mono (by decide)) pass0 (pa_cons (pv 1) pa_nil))) (pss_cons (ps_set (i := 3) sc_parent_of.nd rfl (by first | exact Or.inl rfl | exact Or.inr rfl) (pe_m (pv 0) T.cLinks T.mLinks_right (ok_Links_right T) (hr.mono (by decide)) pass0 (pa_cons (pv 1) pa_nil))) (pss_cons (ps_if (PW.pt (pw_and (pt_val (pe_m (pv 0) T.cLinks T.mLinks_is_out (ok_Links_is_out T) (hr.mono (by decide)) pass0 (pa_cons (pv 3) pa_nil))) (pw_and1 (pt_cmpR op_eq (pe_m (pv 0) T.cLinks T.mLinks_left (ok_Links_left T) (hr.mono (by decide)) pass0 (pa_cons (pv 3) pa_nil)) (pv 2) (nomark _))))) (pss_one (ps_ret (pv 3))) pss_nil) (pss_cons (ps_if (PW.pt (pw_and (pt_val (pe_m (pv 0) T.cLinks T.mLinks_is_out (ok_Links_is_out T) (hr.mono (by decide)) pass0 (pa_cons (pv 2) pa_nil))) (pw_and1 (pt_cmpR op_eq (pe_m (pv 0) T.cLinks T.mLinks_right (ok_Links_right T) (hr.mono (by decide)) pass0 (pa_cons (pv 2) pa_nil)) (pv 3) (nomark _))))) (pss_one (ps_ret (pv 2))) pss_nil) (pss_one (ps_ret pe_int)))))), ?_⟩
    obtain ⟨a, b, e⟩ := Lk.ne_none hx
    have hr := o.rng e
    have hp := o.pos hx
    rw [Lk.par_eq e] at q
    walk_at "go"
    refine am_l hl ?_
    walk_at "go"
    refine ⟨l, n, x, _, _, _, _, rfl, hl, by omega, by omega, listV_get (by omega), ?_⟩
    rw [leftV_pos hp.1, Lk.lL_some e]
    walk_at "go"
    refine am_l hl ?_
    walk_at "go"
    refine ⟨l, n, x, _, _, _, _, rfl, hl, by omega, listV_get (by omega), ?_⟩
    rw [rightV_le hp.2, Lk.lR_some e]
    walk_at "go"
    refine am_l hl ?_
    walk_at "go"
    refine ⟨l, n, b, _, _, _, _, rfl, hl, by omega, listV_get (by omega), ?_⟩
    rw [flag_out]
    walk_at "go"
    have tail : (¬ (Lk.at_ ps b).map (·.1) = some a) → ((Lk.at_ ps a).map (·.2) = some b → Q (.int (a : Int)) H) ∧ (¬ (Lk.at_ ps a).map (·.2) = some b → Q (.int 0) H) := fun h => by
      rw [if_neg h] at q
      constructor
      · intro h2; rw [if_pos h2] at q; exact q
      · intro h2; rw [if_neg h2] at q; exact q
    refine i_b (fun e1 => ?_) (fun e1 => ?_)
    · obtain ⟨c, d, e1⟩ := outB_some e1
      walk_at "go"
      refine am_l hl ?_
      walk_at "go"
      refine ⟨l, n, b, _, _, _, _, rfl, hl, by omega, by omega, listV_get (by omega), ?_⟩
      rw [leftV_pos (by omega), Lk.lL_some e1]
      walk_at "go"
      refine i_dec (fun e2 => ?_) (fun e2 => ?_)
      · have e3 : c = a := by omega
        subst e3
        rw [if_pos (by rw [e1]; rfl)] at q
        walk_at "go"
        exact q
      · have tl := tail (by rw [e1]; intro z; have z2 : c = a := Option.some.inj z; exact e2 (by omega))
        walk_at "go"
        refine am_l hl ?_
        walk_at "go"
        refine ⟨l, n, a, _, _, _, _, rfl, hl, by omega, listV_get (by omega), ?_⟩
        rw [flag_out]
        walk_at "go"
        refine i_b (fun e3 => ?_) (fun e3 => ?_)
        · obtain ⟨c', d', e3⟩ := outB_some e3
          walk_at "go"
          refine am_l hl ?_
          walk_at "go"
          refine ⟨l, n, a, _, _, _, _, rfl, hl, by omega, listV_get (by omega), ?_⟩
          rw [rightV_le (by omega), Lk.lR_some e3]
          walk_at "go"
          refine i_dec (fun e4 => ?_) (fun e4 => ?_)
          · walk_at "go"
            exact tl.1 (by rw [e3]; have e5 : d' = b := by omega
                           subst e5; rfl)
          · walk_at "go"
            exact tl.2 (by rw [e3]; intro z; have z2 : d' = b := Option.some.inj z; exact e4 (by omega))
        · walk_at "go"
          exact tl.2 (by rw [outB_iff e3]; intro z; cases z)
    · have tl := tail (by rw [outB_iff e1]; intro z; cases z)
      walk_at "go"
      refine am_l hl ?_
      walk_at "go"
      refine ⟨l, n, a, _, _, _, _, rfl, hl, by omega, listV_get (by omega), ?_⟩
      rw [flag_out]
      walk_at "go"
      refine i_b (fun e3 => ?_) (fun e3 => ?_)
      · obtain ⟨c', d', e3⟩ := outB_some e3
        walk_at "go"
        refine am_l hl ?_
        walk_at "go"
        refine ⟨l, n, a, _, _, _, _, rfl, hl, by omega, listV_get (by omega), ?_⟩
        rw [rightV_le (by omega), Lk.lR_some e3]
        walk_at "go"
        refine i_dec (fun e4 => ?_) (fun e4 => ?_)
        · walk_at "go"
          exact tl.1 (by rw [e3]; have e5 : d' = b := by omega
                         subst e5; rfl)
        · walk_at "go"
          exact tl.2 (by rw [e3]; intro z; have z2 : d' = b := Option.some.inj z; exact e4 (by omega))
      · walk_at "go"
        exact tl.2 (by rw [outB_iff e3]; intro z; cases z)
end
end Lw
set_option Elab.async false
set_option linter.all false
set_option maxRecDepth 100000
set_option maxHeartbeats 4000000
namespace Lw
open PySem PySem.Spec PyProof.Rows L2
theorem lw_mid {n : Nat} {ps : Lk.PL} : True := trivial
end Lw
namespace Lk
variable {n : Nat} {ps : PL}
/-- the links after an unlink -/
theorem unl_at {x y : Nat} (hx : x < ps.length) (h : at_ ps x = none) : at_ (unl ps x) y = if y = x then some (lowIn ps x, highIn ps x) else at_ ps y := by
  unfold unl
  rw [at_set hx]
theorem lowIn_same {ps qs : PL} (h0 : at_ ps 0 = none) (g0 : at_ qs 0 = none) {y l : Nat} (h : LowAt ps y l) (e : LowAt qs y l) : lowIn qs y = lowIn ps y := by rw [lowIn_eq h0 h, lowIn_eq g0 e]
theorem OK.unl_lL (o : OK n ps) {x y : Nat} (h1 : 1 ≤ x) (h2 : x ≤ n) (hx : at_ ps x = none) (hy : 1 ≤ y) : lL (Lk.unl ps x) y = if y = highIn ps x then lowIn ps x else lL ps y := by
  have hl := o.len
  have A := lowIn_at o.h0 x h1
  have B := highIn_at ps x
  have at' : ∀ z, at_ (Lk.unl ps x) z = if z = x then some (lowIn ps x, highIn ps x) else at_ ps z := fun z => unl_at (by omega) hx
  have z0 : at_ (Lk.unl ps x) 0 = none := by rw [at', if_neg (by omega)]; exact o.h0
  by_cases hyx : y = x
  · subst hyx
    rw [lL_some (by rw [at', if_pos rfl]), if_neg (by have := B.lt; omega), lL_none hx]
  · rcases opt2 (at_ ps y) with e | ⟨a, b, e⟩
    · have e' : at_ (Lk.unl ps x) y = none := by rw [at', if_neg hyx]; exact e
      rw [lL_none e', lL_none e]
      by_cases hh : y = highIn ps x
      · rw [if_pos hh]
        refine lowIn_eq z0 ⟨by have := A.lt; have := B.lt; omega, by rw [at', if_neg (by have := A.lt; omega)]; exact A.in_, fun z h3 h4 => ?_⟩
        rw [at']
        by_cases zx : z = x
        · rw [if_pos zx]; simp
        · rw [if_neg zx]
          by_cases hz : z < x
          · exact A.mid z h3 hz
          · exact B.mid z (by omega) (by omega)
      · rw [if_neg hh]
        have C := lowIn_at o.h0 y hy
        refine lowIn_same o.h0 z0 C ⟨C.lt, ?_, fun z h3 h4 => ?_⟩
        · rw [at']
          by_cases zx : lowIn ps y = x
          · exfalso
            apply hh
            refine (highIn_eq ⟨by rw [← zx]; exact C.lt, e, fun z h5 h6 => C.mid z (by omega) h6⟩).symm
          · rw [if_neg zx]; exact C.in_
        · rw [at']
          by_cases zx : z = x
          · rw [if_pos zx]; simp
          · rw [if_neg zx]; exact C.mid z h3 h4
    · have e' : at_ (Lk.unl ps x) y = some (a, b) := by rw [at', if_neg hyx]; exact e
      rw [lL_some e', lL_some e, if_neg]
      intro q
      rw [q, B.in_] at e
      cases e
theorem OK.unl_lR (o : OK n ps) {x y : Nat} (h1 : 1 ≤ x) (h2 : x ≤ n) (hx : at_ ps x = none) : lR (Lk.unl ps x) y = if y = lowIn ps x then highIn ps x else lR ps y := by
  have hl := o.len
  have A := lowIn_at o.h0 x h1
  have B := highIn_at ps x
  have at' : ∀ z, at_ (Lk.unl ps x) z = if z = x then some (lowIn ps x, highIn ps x) else at_ ps z := fun z => unl_at (by omega) hx
  by_cases hyx : y = x
  · subst hyx
    rw [lR_some (by rw [at', if_pos rfl]), if_neg (by have := A.lt; omega), lR_none hx]
  · rcases opt2 (at_ ps y) with e | ⟨a, b, e⟩
    · have e' : at_ (Lk.unl ps x) y = none := by rw [at', if_neg hyx]; exact e
      rw [lR_none e', lR_none e]
      by_cases hh : y = lowIn ps x
      · rw [if_pos hh]
        refine highIn_eq ⟨by have := A.lt; have := B.lt; omega, by rw [at', if_neg (by have := B.lt; omega)]; exact B.in_, fun z h3 h4 => ?_⟩
        rw [at']
        by_cases zx : z = x
        · rw [if_pos zx]; simp
        · rw [if_neg zx]
          by_cases hz : z < x
          · exact A.mid z (by omega) hz
          · exact B.mid z (by omega) (by omega)
      · rw [if_neg hh]
        have C := highIn_at ps y
        refine highIn_eq ⟨C.lt, ?_, fun z h3 h4 => ?_⟩
        · rw [at']
          by_cases zx : highIn ps y = x
          · exfalso
            apply hh
            exact (lowIn_eq o.h0 ⟨by rw [← zx]; exact C.lt, e, fun z h5 h6 => C.mid z h5 (by omega)⟩).symm
          · rw [if_neg zx]; exact C.in_
        · rw [at']
          by_cases zx : z = x
          · rw [if_pos zx]; simp
          · rw [if_neg zx]; exact C.mid z h3 h4
    · have e' : at_ (Lk.unl ps x) y = some (a, b) := by rw [at', if_neg hyx]; exact e
      rw [lR_some e', lR_some e, if_neg]
      intro q
      rw [q, A.in_] at e
      cases e
/-- the links after a relink -/
theorem OK.rel_lL (o : OK n ps) {x y a b : Nat} (hx : at_ ps x = some (a, b)) (ha : at_ ps a = none) (hb : at_ ps b = none) (hy : 1 ≤ y) : lL (Lk.rel ps x) y = if y = b then x else lL ps y := by
  have hl := o.len
  have r := o.rng hx
  have at' : ∀ z, at_ (Lk.rel ps x) z = if z = x then none else at_ ps z := fun z => by unfold Lk.rel; rw [at_set (by omega)]
  have z0 : at_ (Lk.rel ps x) 0 = none := by rw [at', if_neg (by omega)]; exact o.h0
  have out : ∀ z, a < z → z < b → at_ ps z ≠ none := fun z h3 h4 => by
    obtain ⟨c, d, e, _⟩ := o.within hx h3 h4
    rw [e]; simp
  by_cases hyx : y = x
  · subst hyx
    rw [lL_none (by rw [at', if_pos rfl]), if_neg (by omega), lL_some hx]
    refine lowIn_eq z0 ⟨r.1, by rw [at', if_neg (by omega)]; exact ha, fun z h3 h4 => ?_⟩
    rw [at', if_neg (by omega)]
    exact out z h3 (by omega)
  · rcases opt2 (at_ ps y) with e | ⟨c, d, e⟩
    · have e' : at_ (Lk.rel ps x) y = none := by rw [at', if_neg hyx]; exact e
      rw [lL_none e', lL_none e]
      by_cases hh : y = b
      · rw [if_pos hh]
        refine lowIn_eq z0 ⟨by omega, by rw [at', if_pos rfl], fun z h3 h4 => ?_⟩
        rw [at', if_neg (by omega)]
        exact out z (by omega) (by omega)
      · rw [if_neg hh]
        have C := lowIn_at o.h0 y hy
        have nin : ¬ (lowIn ps y < x ∧ x < y) := fun ⟨h3, h4⟩ => by
          have : ¬ (lowIn ps y < b ∧ b < y) := fun ⟨h5, h6⟩ => C.mid b h5 h6 hb
          have : ¬ y < b := fun h => out y (by omega) h e
          omega
        refine lowIn_same o.h0 z0 C ⟨C.lt, ?_, fun z h3 h4 => ?_⟩
        · rw [at']
          by_cases zx : lowIn ps y = x
          · rw [if_pos zx]
          · rw [if_neg zx]; exact C.in_
        · rw [at']
          by_cases zx : z = x
          · exact absurd ⟨zx ▸ h3, zx ▸ h4⟩ nin
          · rw [if_neg zx]; exact C.mid z h3 h4
    · have e' : at_ (Lk.rel ps x) y = some (c, d) := by rw [at', if_neg hyx]; exact e
      rw [lL_some e', lL_some e, if_neg]
      intro q
      rw [q, hb] at e
      cases e
theorem OK.rel_lR (o : OK n ps) {x y a b : Nat} (hx : at_ ps x = some (a, b)) (ha : at_ ps a = none) (hb : at_ ps b = none) : lR (Lk.rel ps x) y = if y = a then x else lR ps y := by
  have hl := o.len
  have r := o.rng hx
  have at' : ∀ z, at_ (Lk.rel ps x) z = if z = x then none else at_ ps z := fun z => by unfold Lk.rel; rw [at_set (by omega)]
  have out : ∀ z, a < z → z < b → at_ ps z ≠ none := fun z h3 h4 => by
    obtain ⟨c, d, e, _⟩ := o.within hx h3 h4
    rw [e]; simp
  by_cases hyx : y = x
  · subst hyx
    rw [lR_none (by rw [at', if_pos rfl]), if_neg (by omega), lR_some hx]
    refine highIn_eq ⟨r.2.1, by rw [at', if_neg (by omega)]; exact hb, fun z h3 h4 => ?_⟩
    rw [at', if_neg (by omega)]
    exact out z (by omega) (by omega)
  · rcases opt2 (at_ ps y) with e | ⟨c, d, e⟩
    · have e' : at_ (Lk.rel ps x) y = none := by rw [at', if_neg hyx]; exact e
      rw [lR_none e', lR_none e]
      by_cases hh : y = a
      · rw [if_pos hh]
        refine highIn_eq ⟨by omega, by rw [at', if_pos rfl], fun z h3 h4 => ?_⟩
        rw [at', if_neg (by omega)]
        exact out z (by omega) (by omega)
      · rw [if_neg hh]
        have C := highIn_at ps y
        have nin : ¬ (y < x ∧ x < highIn ps y) := fun ⟨h3, h4⟩ => by
          have : ¬ (y < a ∧ a < highIn ps y) := fun ⟨h5, h6⟩ => C.mid a h5 h6 ha
          have : ¬ a < y := fun h => out y h (by omega) e
          omega
        refine highIn_eq ⟨C.lt, ?_, fun z h3 h4 => ?_⟩
        · rw [at']
          by_cases zx : highIn ps y = x
          · rw [if_pos zx]
          · rw [if_neg zx]; exact C.in_
        · rw [at']
          by_cases zx : z = x
          · exact absurd ⟨zx ▸ h3, zx ▸ h4⟩ nin
          · rw [if_neg zx]; exact C.mid z h3 h4
    · have e' : at_ (Lk.rel ps x) y = some (c, d) := by rw [at', if_neg hyx]; exact e
      rw [lR_some e', lR_some e, if_neg]
      intro q
      rw [q, ha] at e
      cases e
end Lk
set_option Elab.async false
set_option linter.all false
set_option maxRecDepth 100000
set_option maxHeartbeats 4000000
namespace Lw
open PySem PySem.Spec PyProof.Rows L2
theorem i_nt {A B : Prop} (h : B) : if (!true) = true then A else B := i_false h
theorem i_nf {A B : Prop} (h : A) : if (!false) = true then A else B := i_true h
def MkR (C : Addr) (sp : Sp) (E : XK) (vs : List V) (Q : VK) (H1 : Hp) : Prop := ∀ x dx, H1 x = none → H1 dx = none → dx ≠ x → sp (.ref x :: vs) (upd (upd H1 dx (.own x)) x (.ins C dx [])) (fun v H2 => v = .non ∧ Q (.ref x) H2) E
theorem h_mk {C : Addr} {sp : Sp} {E : XK} {t : TA} {σ : L2.St} {H : Hp} {Q : VK} (h : t σ H fun vs H1 => MkR C sp E vs Q H1) : tMk C sp E t σ H Q := h
/-! ### list(range(..)) -/
def LrR (a b : Int) (Q : VK) (H : Hp) : Prop := RgOk a b ∧ ∀ q, H q = none → Q (.ref q) (upd H q (.lst (rgV a b)))
/-- o.f = v -/
def SfR (K : PySem.W.Frag) (f : Str) (y x : V) (Z : Hp → Prop) (H : Hp) : Prop := ∃ a C dx fs, x = .ref a ∧ H a = some (.ins C dx fs) ∧ Cls K C ∧ NoAttr K C f ∧ fs.length < 1000 ∧ Z (upd H a (.ins C dx (putF f y fs)))
def WhR (Pv : Nat → L2.St → Hp → Prop) (m : Nat) (tb : TS) (D : Ends) (σ : L2.St) (b : Bool) (H1 : Hp) : Prop := if b = true then ∃ N : L2.St → Hp → Prop, (∀ σ' H', N σ' H' → ∃ m', m' < m ∧ Pv m' σ' H') ∧ tb { D with nx := N, ct := N, bk := D.nx } σ H1 else D.nx σ H1
section
variable {K : PySem.W.Frag} {H : Hp} {Q : VK} {σ : L2.St} {te ta tb' : TE} {D : Ends} {f : Str} {x y v : V} {Z : Hp → Prop} {a C dx l : Addr} {fs : List (Str × V)} {xs ys : List V}
theorem h_lrg {te : L2.St → Hp → (Int → Int → Hp → Prop) → Prop} (h : te σ H fun a b H1 => LrR a b Q H1) : tLstRg te σ H Q := h
theorem h_rg1 {R : Int → Int → Hp → Prop} (h : ta σ H fun x H1 => ∃ n, x = .int n ∧ R 0 n H1) : tRg1 ta σ H R := h
theorem h_rg2 {R : Int → Int → Hp → Prop} (h : ta σ H fun x H1 => tb' σ H1 fun y H2 => ∃ i j, x = .int i ∧ y = .int j ∧ R i j H2) : tRg2 ta tb' σ H R := h
theorem g_int2 {R : Int → Int → Prop} {i j : Int} (h : R i j) : ∃ i' j', V.int i = .int i' ∧ V.int j = .int j' ∧ R i' j' := ⟨i, j, rfl, rfl, h⟩
theorem a_lrg {lo hi : Int} (h1 : -100000 ≤ lo ∧ lo ≤ 100000) (h2 : -100000 ≤ hi ∧ hi ≤ 100000) (q : ∀ p H', H p = none → Same H H' → H' p = some (.lst (rgV lo hi)) → Q (.ref p) H') : LrR lo hi Q H :=
  ⟨⟨by omega, by omega, by omega, by omega, by omega⟩, fun p hp => q p _ hp (Same.new hp) upd_same⟩
theorem h_sfld (h : te σ H fun y H1 => ta σ H1 fun x H2 => SfR K f y x (D.nx σ) H2) : sFld K ta te f D σ H := h
theorem a_sf (ho : H a = some (.ins C dx fs)) (c : Cls K C) (n : NoAttr K C f) (hl : fs.length < 1000) (q : Z (upd H a (.ins C dx (putF f v fs)))) : SfR K f v (.ref a) Z H := ⟨a, C, dx, fs, rfl, ho, c, n, hl, q⟩
theorem h_while {c : TT} {tb : TS} (Pv : Nat → L2.St → Hp → Prop) (m0 : Nat) (h0 : Pv m0 σ H) (hs : ∀ m σ H, Pv m σ H → c σ H fun b H1 => WhR Pv m tb D σ b H1) : tWhile c tb D σ H := ⟨Pv, ⟨m0, h0⟩, hs⟩
theorem wh_t {Pv : Nat → L2.St → Hp → Prop} {m : Nat} {tb : TS} {b : Bool} (hb : b = true) (h : tb { D with nx := fun σ' H' => ∃ m', m' < m ∧ Pv m' σ' H', ct := fun σ' H' => ∃ m', m' < m ∧ Pv m' σ' H', bk := D.nx } σ H) : WhR Pv m tb D σ b H := by
  subst hb
  exact i_true ⟨_, fun _ _ z => z, h⟩
theorem wh_f {Pv : Nat → L2.St → Hp → Prop} {m : Nat} {tb : TS} {b : Bool} (hb : b = false) (h : D.nx σ H) : WhR Pv m tb D σ b H := by
  subst hb
  exact i_false h
theorem h_augx {i : Nat} {ti : TIp} {x : V} (hx : σ[i]? = some (some x)) (h : te σ H fun y H1 => ti x y H1 fun z H2 => D.nx (σ.set i (some z)) H2) : tAug i te ti D σ H := ⟨x, hx, h⟩
theorem h_tru {R : Bool → Hp → Prop} (h : ta σ H fun x H' => ∃ k, TruV K x H' k ∧ R k H') : tTruK K ta σ H R := h
theorem a_trul {R : Bool → Prop} (h : H l = some (.lst xs)) (k : R (!xs.isEmpty)) : ∃ k, TruV K (.ref l) H k ∧ R k := by
  refine ⟨_, ?_, k⟩
  exact Or.inl ⟨xs, SqL.of h, rfl⟩
theorem a_pop (h : H l = some (.lst (ys ++ [y]))) (q : ∀ H', H' l = some (.lst ys) → (∀ b, b ≠ l → H' b = H b) → Q y H') : rPop (.ref l) [] H Q :=
  ⟨l, ys ++ [y], y, rfl, rfl, h, by simp, q _ (by rw [upd_same, List.dropLast_concat]) fun b hb => upd_ne hb⟩
theorem a_rep {x : V} {n : Nat} (h : H l = some (.lst [x])) (hn : n ≤ 100000) (q : ∀ p H', H p = none → Same H H' → H' p = some (.lst (List.replicate n x)) → Q (.ref p) H') : rRep (.ref l) (.int (n : Int)) H Q := r_rep h hn q
theorem r_last {y : V} (h : H l = some (.lst (ys ++ [y]))) (q : Q y H) : rIxL K (.ref l) (.int (-1)) H Q :=
  ⟨l, _, -1, y, rfl, rfl, SqL.of h, by
    have e1 : ¬ (0 : Int) ≤ -1 := by decide
    unfold atI ixN
    rw [if_neg e1, if_pos (by rw [List.length_append]; simp only [List.length_singleton]; omega)]
    show (ys ++ [y])[(-1 + (((ys ++ [y]).length : Nat) : Int)).toNat]? = some y
    have e2 : (-1 + (((ys ++ [y]).length : Nat) : Int)).toNat = ys.length := by rw [List.length_append]; simp only [List.length_singleton]; omega
    rw [e2]
    simp, q⟩
theorem ip_i {x y : Int} {R : VK} (h : CMul x y) (q : R (.int (x * y)) H) : ∃ i j, V.int x = .int i ∧ V.int y = .int j ∧ CMul i j ∧ R (.int (i * j)) H := ⟨x, y, rfl, rfl, h, q⟩
theorem g_ipI {f : Int → Int → Int} {i j : Int} {R : VK} (q : R (.int (f i j)) H) : ipI f (.int i) (.int j) H R := ⟨i, j, rfl, rfl, q⟩
/-- [x] * k, the count given as an int -/
theorem a_repI {x : V} (k : Nat) {z : Int} (e : z = (k : Int)) (h : H l = some (.lst [x])) (hn : k ≤ 100000) (q : ∀ p H', H p = none → Same H H' → H' p = some (.lst (List.replicate k x)) → Q (.ref p) H') : rRep (.ref l) (.int z) H Q := by
  subst e
  exact r_rep h hn q
/-! ### fresh Links -/
structure NewL (K : PySem.W.Frag) (H H' : Hp) (l : Addr) (n : Nat) (L R F : List V) (dx la ra fa : Addr) : Prop where
  at_ : LnkAt K H' l n L R F dx la ra fa
  l_ : H l = none
  a_ : H la = none
  r_ : H ra = none
  f_ : H fa = none
  same : Same H H'
/-- all but three lists -/
def B3 (la ra fa : Addr) (H H' : Hp) : Prop := ∀ b, b ≠ la → b ≠ ra → b ≠ fa → H' b = H b
theorem NewL.b3 {H H' H'' : Hp} {l : Addr} {n : Nat} {L R F : List V} {dx la ra fa : Addr} (h : NewL K H H' l n L R F dx la ra fa) (b : B3 la ra fa H' H'') : Same H H'' := fun c o hc => by
  rw [b c (ne_of_none hc h.a_) (ne_of_none hc h.r_) (ne_of_none hc h.f_)]
  exact h.same c o hc
/-- a stack of pairs, the top first -/
inductive StkAt (H : Hp) : List V → List (Nat × Nat) → Prop
  | nil : StkAt H [] []
  | cons {t : Addr} {a b : Nat} {vs : List V} {gs : List (Nat × Nat)} : H t = some (.tup [.int (a : Int), .int (b : Int)]) → StkAt H vs gs → StkAt H (.ref t :: vs) ((a, b) :: gs)
theorem StkAt.mono {H H' : Hp} (e : Same H H') {vs : List V} {gs : List (Nat × Nat)} (h : StkAt H vs gs) : StkAt H' vs gs := by
  induction h with
  | nil => exact .nil
  | cons h1 _ ih => exact .cons (e _ _ h1) ih
theorem StkAt.but {H H' : Hp} {l : Addr} {xs : List V} (hl : H l = some (.lst xs)) (e : ∀ b, b ≠ l → H' b = H b) {vs : List V} {gs : List (Nat × Nat)} (h : StkAt H vs gs) : StkAt H' vs gs := by
  induction h with
  | nil => exact .nil
  | cons h1 _ ih => exact .cons (by rw [e _ (ne_of h1 hl (by intro q; cases q))]; exact h1) ih
theorem StkAt.len {H : Hp} {vs : List V} {gs : List (Nat × Nat)} (h : StkAt H vs gs) : vs.length = gs.length := by
  induction h with
  | nil => rfl
  | cons _ _ ih => rw [List.length_cons, List.length_cons, ih]
/-- lists of a standing, changed at one place -/
theorem listV_set {n i : Nat} {f g : Nat → V} {v : V} (hi : i < n + 2) (h1 : g i = v) (h2 : ∀ y, y ≠ i → y < n + 2 → g y = f y) : (listV n f).set i v = listV n g := by
  refine listV_ext (by rw [List.length_set, listV_len]) fun y hy => ?_
  by_cases e : y = i
  · subst e
    rw [List.getElem?_set_self (by rw [listV_len]; exact hy), h1]
  · rw [List.getElem?_set_ne (fun q => e q.symm), listV_get hy, h2 y e hy]
theorem listV_congr {n : Nat} {f g : Nat → V} (h : ∀ y, y < n + 2 → f y = g y) : listV n f = listV n g := listV_ext (listV_len n f) fun y hy => by rw [listV_get hy, h y hy]
end
end Lw
set_option Elab.async false
set_option linter.all false
set_option maxRecDepth 100000
set_option maxHeartbeats 4000000
namespace Lw
open PySem PySem.Spec PyProof.Rows L2
local macro_rules | `(tactic| walk_at "h") => `(tactic| first | assumption | (refine (by assumption : Same _ _) _ _ ?_; walk_at "h"))
local macro_rules | `(tactic| walk_at "g1") => `(tactic| first
  | with_reducible refine g_seq ?_ | with_reducible refine g_asg ?_ | with_reducible refine g_name ?_ | with_reducible refine g_drop ?_ | with_reducible refine g_ret ?_ | with_reducible refine g_retN ?_
  | with_reducible refine g_next ?_ | with_reducible refine g_brk ?_ | with_reducible refine g_cont ?_ | with_reducible refine g_if ?_ | ((with_reducible show tVar _ _ _ _); refine ⟨_, rfl, ?_⟩) | with_reducible refine g_c ?_
  | with_reducible refine g_op ?_ | with_reducible refine g_un ?_ | with_reducible refine g_ifE ?_ | with_reducible refine g_test ?_ | with_reducible refine g_B ?_ | with_reducible refine g_and ?_ | with_reducible refine g_or ?_ | with_reducible refine g_not ?_
  | with_reducible refine g_andV ?_ | with_reducible refine g_orV ?_ | with_reducible refine g_notV ?_ | with_reducible refine g_nil ?_ | with_reducible refine g_cons ?_ | with_reducible refine g_cb ?_ | with_reducible refine g_f ?_
  | with_reducible refine g_bl ?_ | with_reducible refine g_blV ?_ | with_reducible refine g_part ?_ | with_reducible refine g_nopart ?_ | with_reducible refine g_sl ?_ | with_reducible refine g_intx ?_
  | with_reducible refine r_i0 ?_ | with_reducible refine r_eqi ?_ | with_reducible refine r_nei ?_ | with_reducible refine r_u ?_
  | with_reducible refine r_isN_non ?_ | with_reducible refine r_isN_ref ?_ | with_reducible refine r_isN_int ?_ | with_reducible refine r_notN_non ?_ | with_reducible refine r_notN_ref ?_
  | with_reducible refine h_lc ?_ | with_reducible refine h_for ?_ | with_reducible refine h_rng1 ?_ | with_reducible refine h_rng2 ?_ | with_reducible refine h_ilist ?_ | with_reducible refine h_lst ?_ | with_reducible refine h_tup ?_
  | with_reducible refine h_fld ?_ | with_reducible refine h_m ?_ | with_reducible refine g_sm ?_ | with_reducible refine g_cm ?_ | with_reducible refine h_mk ?_ | with_reducible refine g_chain ?_ | with_reducible refine g_asgsub ?_ | with_reducible refine g_sfld ?_
  | with_reducible refine g_bm ?_ | with_reducible refine g_bm0 ?_
  | ((with_reducible refine' r_tup0 ?gh ?_); (case gh => walk_at "h")) | ((with_reducible refine' r_tup1 ?gh ?_); (case gh => walk_at "h"))
  | ((with_reducible refine' And.intro (ty_lst ?gh) ?_); (case gh => walk_at "h"))
  | with_reducible refine h_lrg ?_ | with_reducible refine h_rg1 ?_ | with_reducible refine h_rg2 ?_ | with_reducible refine g_int2 ?_ | with_reducible refine h_sfld ?_ | with_reducible refine h_augx rfl ?_ | with_reducible refine h_tru ?_ | with_reducible refine g_ipI ?_ | with_reducible refine h_enum ?_ | with_reducible refine h_enumS ?_
  | with_reducible refine i_true ?_ | with_reducible refine i_false ?_ | with_reducible refine i_nt ?_ | with_reducible refine i_nf ?_)
local macro_rules | `(tactic| walk_at "go") => `(tactic| ((repeat' walk_at "g1"); (try dsimp only)))
section
variable {P : Program} {w : World} {K : PySem.W.Frag} {mg : Str → Option Value} {base : Heap}
theorem sc_Links_is_sound : FnScope ["self", "last", "node"] ["self"] (defScope s_Links_is_sound) := ⟨rfl, rfl, rfl, by decide +kernel, rfl, by decide +kernel, by decide +kernel⟩
theorem bd_Links_is_sound : BindsP "is_sound" "Links.is_sound" s_Links_is_sound ["self"] := fun _ _ _ _ _ _ us hl => match us, hl with | [_], _ => rfl
def sp_Links_is_sound (K : PySem.W.Frag) : Sp := fun vs H Q _ => ∃ (l : Addr) (n : Nat) (ps : Lk.PL), vs = [.ref l] ∧ LinksAt K H l n ps ∧ Lk.OK n ps ∧ n ≤ 60 ∧ Q (.bl true) H
set_option maxHeartbeats 4000000 in
theorem ok_Links_is_sound (T : Tx K mg) : FnR P w K mg base CX0 1 (He.ma K (He.ga K "Links") "is_sound") (sp_Links_is_sound K) := by
  refine (T.F_Links_is_sound).ok sc_Links_is_sound bd_Links_is_sound (fun vs H Q E h => ?_) (fun cdv A outer s H vs Q E hr h => ?_)
  · obtain ⟨l, n, ps, rfl, _⟩ := h
    rfl
  · obtain ⟨l, n, ps, rfl, ⟨dx, la, ra, fa, hl⟩, o, hn, q⟩ := h
    refine ⟨_, (pss_cons (ps_set (i := 1) sc_Links_is_sound.nd rfl (by first | exact Or.inl rfl | exact Or.inr rfl) pe_int) (pss_cons (ps_for PassesOwn.never rfl (pi_range2 rfl T.n_range (pa_cons pe_int (pa_cons (pe_op op_add (fldK (K := K) rfl (pv 0)) pe_int) pa_nil))) (pg_name (i := 2) sc_Links_is_sound.nd rfl (by first | exact Or.inl rfl | exact Or.inr rfl)) (pss_one (ps_if (pt_not (pt_val (pe_ix (ixl (K := K) rfl) (fldK (K := K) rfl (pv 0)) (pv 2) (fun _ _ => rfl)))) (pss_cons (ps_if (PW.pt (pw_or (pt_cmpR op_ne (pe_ix (ixl (K := K) rfl) (fldK (K := K) rfl (pv 0)) (pv 1) (fun _ _ => rfl)) (pv 2) (nomark _)) (pw_or1 (pt_cmpR op_ne (pe_ix (ixl (K := K) rfl) (fldK (K := K) rfl (pv 0)) (pv 2) (fun _ _ => rfl)) (pv 1) (nomark _))))) (pss_one (ps_ret pe_bl)) pss_nil) (pss_one (ps_set (i := 1) sc_Links_is_sound.nd rfl (by first | exact Or.inl rfl | exact Or.inr rfl) (pv 2)))) pss_nil))) (pss_one (ps_ret pe_bl)))), ?_⟩
    walk_at "go"
    refine fl_size T hl ?_
    walk_at "go"
    refine a_r2 1 (n + 1) (by omega) (by omega) (by omega) ?_
    refine fo_rN (fun i σ H' => ∃ (y : Nat) (tv : Option V), H' = H ∧ σ = [some (.ref l), some (.int (y : Int)), tv] ∧ Lk.LowAt ps (1 + i) y)
      ⟨0, none, rfl, rfl, by omega, o.h0, fun y h1 h2 => by omega⟩ ?_ ?_
    · rintro i σ H2 hi ⟨y, tv, rfl, rfl, hy⟩
      walk_at "go"
      refine fl_flags T hl ?_
      walk_at "go"
      refine r_ixl hl.f_ (listV_get (by omega)) ?_
      rw [flag_out]
      walk_at "go"
      cases eb : outB ps (1 + i) with
      | true =>
        refine i_false ?_
        walk_at "go"
        obtain ⟨a, b, e⟩ := outB_some eb
        refine ⟨y, _, rfl, rfl, by have := hy.lt; omega, hy.in_, fun z h1 h2 => ?_⟩
        by_cases hz : z = 1 + i
        · rw [hz, e]; simp
        · exact hy.mid z h1 (by omega)
      | false =>
        have e := outB_iff eb
        have hlt := hy.lt
        have er : Lk.lR ps y = 1 + i := by
          rw [Lk.lR_none hy.in_]
          exact Lk.highIn_eq ⟨hy.lt, e, hy.mid⟩
        have el : Lk.lL ps (1 + i) = y := by
          rw [Lk.lL_none e]
          exact Lk.lowIn_eq o.h0 hy
        refine i_true ?_
        walk_at "go"
        refine fl_rights T hl ?_
        walk_at "go"
        refine r_ixl hl.r_ (listV_get (by omega)) ?_
        rw [rightV_le (by omega), er]
        walk_at "go"
        refine n_yes rfl ?_
        walk_at "go"
        refine fl_lefts T hl ?_
        walk_at "go"
        refine r_ixl hl.l_ (listV_get (by omega)) ?_
        rw [leftV_pos (by omega), el]
        walk_at "go"
        refine n_yes rfl ?_
        walk_at "go"
        exact ⟨1 + i, _, rfl, rfl, by omega, e, fun z h1 h2 => by omega⟩
    · rintro σ H2 ⟨y, tv, rfl, rfl, hy⟩
      walk_at "go"
      exact q
theorem sc_root_of : FnScope ["links", "low", "high", "node"] ["links", "low", "high"] (defScope s_root_of) := ⟨rfl, rfl, rfl, by decide +kernel, rfl, by decide +kernel, by decide +kernel⟩
theorem bd_root_of : BindsP "root_of" "root_of" s_root_of ["links", "low", "high"] := fun _ _ _ _ _ _ us hl => match us, hl with | [_, _, _], _ => rfl
def sp_root_of (K : PySem.W.Frag) : Sp := fun vs H Q _ => ∃ (l : Addr) (n a b r : Nat) (ps : Lk.PL), vs = [.ref l, .int (a : Int), .int (b : Int)] ∧ LinksAt K H l n ps ∧ Lk.OK n ps ∧ n ≤ 60 ∧ Lk.at_ ps r = some (a, b) ∧ Q (.int (r : Int)) H
set_option maxHeartbeats 4000000 in
theorem ok_root_of (T : Tx K mg) : FnR P w K mg base CX0 2 (He.ga K "root_of") (sp_root_of K) := by
  refine (T.F_root_of).ok sc_root_of bd_root_of (fun vs H Q E h => ?_) (fun cdv A outer s H vs Q E hr h => ?_)
  · obtain ⟨l, n, a, b, r, ps, rfl, _⟩ := h
    rfl
  · obtain ⟨l, n, a, b, r, ps, rfl, hl, o, hn, er, q⟩ := h
    have hr' := o.rng er
    refine ⟨_, (pss_cons (ps_for PassesOwn.never rfl (pi_range2 rfl T.n_range (pa_cons (pe_op op_add (pv 1) pe_int) (pa_cons (pv 2) pa_nil))) (pg_name (i := 3) sc_root_of.nd rfl (by first | exact Or.inl rfl | exact Or.inr rfl)) (pss_one (ps_if (PW.pt (pw_and (pt_cmpR op_eq (pe_m (pv 0) T.cLinks T.mLinks_left (ok_Links_left (K := K) T) (hr.mono (by decide)) pass0 (pa_cons (pv 3) pa_nil)) (pv 1) (nomark _)) (pw_and1 (pt_cmpR op_eq (pe_m (pv 0) T.cLinks T.mLinks_right (ok_Links_right (K := K) T) (hr.mono (by decide)) pass0 (pa_cons (pv 3) pa_nil)) (pv 2) (nomark _))))) (pss_one (ps_ret (pv 3))) pss_nil))) (pss_one (ps_ret pe_non))), ?_⟩
    walk_at "go"
    refine a_r2 (a + 1) (b - a - 1) (by omega) (by omega) (by omega) ?_
    refine fo_rN (fun i σ H' => ∃ (tv : Option V), H' = H ∧ σ = [some (.ref l), some (.int (a : Int)), some (.int (b : Int)), tv] ∧ a + 1 + i ≤ r)
      ⟨none, rfl, rfl, by omega⟩ ?_ ?_
    · rintro i σ H2 hi ⟨tv, rfl, rfl, hy⟩
      obtain ⟨c, d, e, _⟩ := o.within er (y := a + 1 + i) (by omega) (by omega)
      walk_at "go"
      refine am_l hl ?_
      walk_at "go"
      refine ⟨l, n, a + 1 + i, _, _, _, _, rfl, hl, by omega, by omega, listV_get (by omega), ?_⟩
      rw [leftV_pos (by omega), Lk.lL_some e]
      walk_at "go"
      refine i_dec (fun e2 => ?_) (fun e2 => ?_)
      · walk_at "go"
        refine am_l hl ?_
        walk_at "go"
        refine ⟨l, n, a + 1 + i, _, _, _, _, rfl, hl, by omega, listV_get (by omega), ?_⟩
        rw [rightV_le (by omega), Lk.lR_some e]
        walk_at "go"
        refine i_dec (fun e3 => ?_) (fun e3 => ?_)
        · walk_at "go"
          have e4 : c = a := by omega
          have e5 : d = b := by omega
          subst e4; subst e5
          rw [o.uniq e er]
          exact q
        · walk_at "go"
          refine ⟨_, rfl, rfl, ?_⟩
          rcases Nat.lt_or_eq_of_le hy with z | z
          · omega
          · rw [z, er] at e
            cases e
            exact absurd rfl e3
      · walk_at "go"
        refine ⟨_, rfl, rfl, ?_⟩
        rcases Nat.lt_or_eq_of_le hy with z | z
        · omega
        · rw [z, er] at e
          cases e
          exact absurd rfl e2
    · rintro σ H2 ⟨tv, rfl, rfl, hy⟩
      exfalso
      omega
theorem sc_has_trees : FnScope ["links", "ranges", "low", "high", "root"] ["links"] (defScope s_has_trees) := ⟨rfl, rfl, rfl, by decide +kernel, rfl, by decide +kernel, by decide +kernel⟩
theorem bd_has_trees : BindsP "has_trees" "has_trees" s_has_trees ["links"] := fun _ _ _ _ _ _ us hl => match us, hl with | [_], _ => rfl
def Gp (n : Nat) (ps : Lk.PL) (g : Nat × Nat) : Prop := g.1 < g.2 ∧ g.2 ≤ n + 1 ∧ Lk.Encl ps g.1 g.2
def wtG : List (Nat × Nat) → Nat
  | [] => 0
  | g :: gs => (2 * (g.2 - g.1) - 1) + wtG gs
theorem wtG_len {n : Nat} {ps : Lk.PL} : ∀ {gs : List (Nat × Nat)}, (∀ g ∈ gs, Gp n ps g) → gs.length ≤ wtG gs
  | [], _ => Nat.le_refl _
  | g :: gs, h => by
    have ih := wtG_len fun x hx => h x (List.mem_cons_of_mem _ hx)
    have := (h g (List.mem_cons_self ..)).1
    unfold wtG
    rw [List.length_cons]
    omega
def sp_has_trees (K : PySem.W.Frag) : Sp := fun vs H Q _ => ∃ (l : Addr) (n : Nat) (ps : Lk.PL), vs = [.ref l] ∧ LinksAt K H l n ps ∧ Lk.OK n ps ∧ n ≤ 60 ∧ ∀ H', Same H H' → Q (.bl true) H'
set_option maxHeartbeats 4000000 in
theorem ok_has_trees (T : Tx K mg) : FnR P w K mg base CX0 3 (He.ga K "has_trees") (sp_has_trees K) := by
  refine (T.F_has_trees).ok sc_has_trees bd_has_trees (fun vs H Q E h => ?_) (fun cdv A outer s H vs Q E hr h => ?_)
  · obtain ⟨l, n, ps, rfl, _⟩ := h
    rfl
  · obtain ⟨l, n, ps, rfl, hl, o, hn, q⟩ := h
    refine ⟨_, (pss_cons (ps_if (pt_not (pt_val (pe_m0r (pv 0) T.cLinks T.mLinks_is_sound (ok_Links_is_sound (K := K) T) (hr.mono (by decide)) pass0))) (pss_one (ps_ret pe_bl)) pss_nil) (pss_cons (ps_set (i := 1) sc_has_trees.nd rfl (by first | exact Or.inl rfl | exact Or.inr rfl) (pe_lst pa_nil)) (pss_cons (ps_set (i := 2) sc_has_trees.nd rfl (by first | exact Or.inl rfl | exact Or.inr rfl) pe_int) (pss_cons (ps_while PassesOwn.never (pt_cmpR op_le (pv 2) (fldK (K := K) rfl (pv 0)) (nomark _)) (pss_cons (ps_expr (bmK (K := K) rfl PySem.F.plainAttrs_list PySem.F.slot_list_append PySem.F.type_list_append mt_append (pv 1) (pa_cons (pe_tup (pa_cons (pv 2) (pa_cons (pe_m (pv 0) T.cLinks T.mLinks_right (ok_Links_right (K := K) T) (hr.mono (by decide)) pass0 (pa_cons (pv 2) pa_nil)) pa_nil))) pa_nil))) (pss_one (ps_set (i := 2) sc_has_trees.nd rfl (by first | exact Or.inl rfl | exact Or.inr rfl) (pe_m (pv 0) T.cLinks T.mLinks_right (ok_Links_right (K := K) T) (hr.mono (by decide)) pass0 (pa_cons (pv 2) pa_nil)))))) (pss_cons (ps_while PassesOwn.never (truK (K := K) rfl (pv 1) (by intro _; rfl)) (pss_cons (ps_asg (bm0K (K := K) rfl PySem.F.plainAttrs_list PySem.F.slot_list_pop PySem.F.type_list_pop mt_pop (pv 1)) (ptupK (K := K) rfl (by rfl) (pgs_cons (pg_name (i := 2) sc_has_trees.nd rfl (by first | exact Or.inl rfl | exact Or.inr rfl)) (pgs_cons (pg_name (i := 3) sc_has_trees.nd rfl (by first | exact Or.inl rfl | exact Or.inr rfl)) pgs_nil)))) (pss_one (ps_if (pt_cmpR op_gt (pe_op op_sub (pv 3) (pv 2)) pe_int (nomark _)) (pss_cons (ps_set (i := 4) sc_has_trees.nd rfl (by first | exact Or.inl rfl | exact Or.inr rfl) (pe_f (ok_root_of (K := K) T) (hr.mono (by decide)) rfl T.g_root_of T.k_root_of pass0 (pa_cons (pv 0) (pa_cons (pv 2) (pa_cons (pv 3) pa_nil))))) (pss_cons (ps_if (pt_cmpR op_isN1 (pv 4) pe_non (nomark _)) (pss_one (ps_ret pe_bl)) pss_nil) (pss_cons (ps_expr (bmK (K := K) rfl PySem.F.plainAttrs_list PySem.F.slot_list_append PySem.F.type_list_append mt_append (pv 1) (pa_cons (pe_tup (pa_cons (pv 2) (pa_cons (pv 4) pa_nil))) pa_nil))) (pss_one (ps_expr (bmK (K := K) rfl PySem.F.plainAttrs_list PySem.F.slot_list_append PySem.F.type_list_append mt_append (pv 1) (pa_cons (pe_tup (pa_cons (pv 4) (pa_cons (pv 3) pa_nil))) pa_nil))))))) pss_nil)))) (pss_one (ps_ret pe_bl))))))), ?_⟩
    walk_at "go"
    refine am_l hl ?_
    walk_at "go"
    refine ⟨l, n, ps, rfl, hl, o, hn, ?_⟩
    walk_at "go"
    refine a_lst (xs := []) (fun rp H1 hr1 e1 hv1 => ?_) (Nat.zero_le _)
    walk_at "go"
    refine h_while (fun m σ H' => ∃ (a : Nat) (vs : List V) (gs : List (Nat × Nat)), σ = [some (.ref l), some (.ref rp), some (.int (a : Int)), none, none] ∧ Same H H' ∧ H' rp = some (.lst vs.reverse) ∧ StkAt H' vs gs ∧ (∀ g ∈ gs, Gp n ps g) ∧ wtG gs ≤ 2 * a ∧ a ≤ n + 1 ∧ m = n + 1 - a ∧ (a ≤ n → Lk.at_ ps a = none))
      (n + 1) ⟨0, [], [], rfl, e1, hv1, .nil, (fun _ h => by cases h), Nat.le_refl _, by omega, rfl, fun _ => o.h0⟩ ?_
    rintro m σ H2 ⟨a, vs, gs, rfl, e2, hv2, st2, good, hw, ha, rfl, hin⟩
    walk_at "go"
    have hl2 := hl.mono e2
    obtain ⟨dx, la, ra, fa, hl2'⟩ := hl2
    have hl2 := hl.mono e2
    refine fl_size T hl2' ?_
    walk_at "go"
    by_cases hle : a ≤ n
    · refine wh_t (by simpa using hle) ?_
      walk_at "go"
      refine am_l hl2 ?_
      walk_at "go"
      refine ⟨l, n, a, _, _, _, _, rfl, hl2, by omega, listV_get (by omega), ?_⟩
      have hB := Lk.highIn_at ps a
      have hb1 : Lk.highIn ps a ≤ n + 1 := by
        apply Nat.le_of_not_lt
        intro h
        exact hB.mid (n + 1) (by omega) h o.hn
      have hBl := hB.lt
      rw [rightV_le (by omega), Lk.lR_none (hin hle)]
      walk_at "go"
      refine a_tup fun t H3 ht e3 ht3 => ?_
      walk_at "go"
      have hlen : vs.length ≤ 200 := by
        have := wtG_len good
        have := st2.len
        omega
      refine a_app (e3 _ _ hv2) (by rw [List.length_reverse]; omega) fun H4 hv4 b4 => ?_
      have e4 : Same H H4 := Same.but (e2.trans e3) hr1 b4
      walk_at "go"
      have hl4 := hl.mono e4
      refine am_l hl4 ?_
      walk_at "go"
      refine ⟨l, n, a, _, _, _, _, rfl, hl4, by omega, listV_get (by omega), ?_⟩
      rw [rightV_le (by omega), Lk.lR_none (hin hle)]
      walk_at "go"
      have ht4 : H4 t = some (.tup [.int (a : Int), .int (Lk.highIn ps a : Int)]) := by
        rw [b4 t (ne_of ht3 (e3 _ _ hv2) (by intro q; cases q))]
        exact ht3
      refine ⟨n + 1 - Lk.highIn ps a, by omega, Lk.highIn ps a, .ref t :: vs, (a, Lk.highIn ps a) :: gs, rfl, e4, by rw [hv4, List.reverse_cons], .cons ht4 ((st2.mono e3).but (e3 _ _ hv2) b4), ?_, ?_, hb1, rfl, fun _ => hB.in_⟩
      · intro g hg
        rcases List.mem_cons.mp hg with z | z
        · subst z
          exact ⟨hBl, hb1, o.encGap (hin hle) hB.in_ hB.mid⟩
        · exact good g z
      · unfold wtG
        dsimp only
        omega
    · refine wh_f (by simpa using hle) ?_
      walk_at "go"
      refine h_while (fun m σ H' => ∃ (av : V) (vs : List V) (gs : List (Nat × Nat)) (v3 v4 : Option V), σ = [some (.ref l), some (.ref rp), some av, v3, v4] ∧ Same H H' ∧ H' rp = some (.lst vs.reverse) ∧ StkAt H' vs gs ∧ (∀ g ∈ gs, Gp n ps g) ∧ wtG gs ≤ 200 ∧ m = wtG gs)
        (wtG gs) ⟨_, vs, gs, none, none, rfl, e2, hv2, st2, good, by omega, rfl⟩ ?_
      rintro m σ H5 ⟨av, vs, gs, v3, v4, rfl, e5, hv5, st5, good, hw, rfl⟩
      walk_at "go"
      refine a_trul hv5 ?_
      have hlen : vs.length ≤ 200 := by
        have := wtG_len good
        have := st5.len
        omega
      cases st5 with
      | nil =>
        refine wh_f rfl ?_
        walk_at "go"
        exact q H5 e5
      | @cons t a b vs gs ht st5 =>
        obtain ⟨g1, g2, g3⟩ := good (a, b) (List.mem_cons_self ..)
        have good' : ∀ g ∈ gs, Gp n ps g := fun g hg => good g (List.mem_cons_of_mem _ hg)
        dsimp only at g1 g2 g3
        rw [List.length_cons] at hlen
        have hw' : (2 * (b - a) - 1) + wtG gs ≤ 200 := hw
        refine wh_t (by rw [List.reverse_cons]; simp) ?_
        rw [List.reverse_cons] at hv5
        walk_at "go"
        refine a_pop hv5 fun H6 hv6 b6 => ?_
        have e6 : Same H H6 := Same.but e5 hr1 b6
        have ht6 : H6 t = some (.tup [.int (a : Int), .int (b : Int)]) := by
          rw [b6 t (ne_of ht hv5 (by intro q; cases q))]
          exact ht
        have st6 := st5.but hv5 b6
        refine a_gtup2 ht6 ?_
        walk_at "go"
        by_cases hb : a + 1 < b
        · refine i_yes (by omega) ?_
          walk_at "go"
          obtain ⟨r, er, hr2, hr3⟩ := o.root g3 hb
          refine ⟨l, n, a, b, r, ps, rfl, hl.mono e6, o, hn, er, ?_⟩
          walk_at "go"
          refine a_tup fun t1 H7 ht1 e7 ht7 => ?_
          walk_at "go"
          refine a_app (e7 _ _ hv6) (by rw [List.length_reverse]; omega) fun H8 hv8 b8 => ?_
          have e8 : Same H H8 := Same.but (e6.trans e7) hr1 b8
          have ht8 : H8 t1 = some (.tup [.int (a : Int), .int (r : Int)]) := by
            rw [b8 t1 (ne_of ht7 (e7 _ _ hv6) (by intro q; cases q))]
            exact ht7
          have st8 : StkAt H8 (.ref t1 :: vs) ((a, r) :: gs) := .cons ht8 ((st6.mono e7).but (e7 _ _ hv6) b8)
          walk_at "go"
          refine a_tup fun t2 H9 ht2 e9 ht9 => ?_
          walk_at "go"
          refine a_app (e9 _ _ hv8) (by rw [List.length_append, List.length_reverse]; simp only [List.length_singleton]; omega) fun H10 hv10 b10 => ?_
          have e10 : Same H H10 := Same.but (e8.trans e9) hr1 b10
          have ht10 : H10 t2 = some (.tup [.int (r : Int), .int (b : Int)]) := by
            rw [b10 t2 (ne_of ht9 (e9 _ _ hv8) (by intro q; cases q))]
            exact ht9
          refine ⟨wtG ((r, b) :: (a, r) :: gs), ?_, _, .ref t2 :: .ref t1 :: vs, (r, b) :: (a, r) :: gs, _, _, rfl, e10, by rw [hv10, List.reverse_cons, List.reverse_cons], .cons ht10 ((st8.mono e9).but (e9 _ _ hv8) b10), ?_, ?_, rfl⟩
          · have ew : wtG ((a, b) :: gs) = (2 * (b - a) - 1) + wtG gs := rfl
            have ew2 : wtG ((r, b) :: (a, r) :: gs) = (2 * (b - r) - 1) + ((2 * (r - a) - 1) + wtG gs) := rfl
            omega
          · intro g hg
            rcases List.mem_cons.mp hg with z | hg
            · subst z
              exact ⟨hr3, g2, o.encR er⟩
            · rcases List.mem_cons.mp hg with z | z
              · subst z
                exact ⟨hr2, by dsimp only; omega, o.encL er⟩
              · exact good' g z
          · have ew : wtG ((a, b) :: gs) = (2 * (b - a) - 1) + wtG gs := rfl
            have ew2 : wtG ((r, b) :: (a, r) :: gs) = (2 * (b - r) - 1) + ((2 * (r - a) - 1) + wtG gs) := rfl
            omega
        · refine i_no (by omega) ?_
          walk_at "go"
          refine ⟨wtG gs, ?_, _, vs, gs, _, _, rfl, e6, hv6, st6, good', by omega, rfl⟩
          have ew : wtG ((a, b) :: gs) = (2 * (b - a) - 1) + wtG gs := rfl
          omega
theorem sc_parents_of : FnScope ["links", "parents", "node"] ["links"] (defScope s_parents_of) := ⟨rfl, rfl, rfl, by decide +kernel, rfl, by decide +kernel, by decide +kernel⟩
theorem bd_parents_of : BindsP "parents_of" "parents_of" s_parents_of ["links"] := fun _ _ _ _ _ _ us hl => match us, hl with | [_], _ => rfl
def sp_parents_of (K : PySem.W.Frag) : Sp := fun vs H Q _ => ∃ (l : Addr) (n : Nat) (ps : Lk.PL), vs = [.ref l] ∧ LinksAt K H l n ps ∧ Lk.OK n ps ∧ n ≤ 60 ∧ ∀ p H', H p = none → Same H H' → H' p = some (.lst (listV n (parV ps))) → Q (.ref p) H'
set_option maxHeartbeats 4000000 in
theorem ok_parents_of (T : Tx K mg) : FnR P w K mg base CX0 3 (He.ga K "parents_of") (sp_parents_of K) := by
  refine (T.F_parents_of).ok sc_parents_of bd_parents_of (fun vs H Q E h => ?_) (fun cdv A outer s H vs Q E hr h => ?_)
  · obtain ⟨l, n, ps, rfl, _⟩ := h
    rfl
  · obtain ⟨l, n, ps, rfl, hl, o, hn, q⟩ := h
    refine ⟨_, (pss_cons (ps_set (i := 1) sc_parents_of.nd rfl (by first | exact Or.inl rfl | exact Or.inr rfl) (pe_op op_rep (pe_lst (pa_cons (pe_un un_neg pe_int) pa_nil)) (pe_op op_add (fldK (K := K) rfl (pv 0)) pe_int))) (pss_cons (ps_for PassesOwn.never rfl (pilK (K := K) rfl (pe_m0r (pv 0) T.cLinks T.mLinks_outs (ok_Links_outs (K := K) T) (hr.mono (by decide)) pass0)) (pg_name (i := 2) sc_parents_of.nd rfl (by first | exact Or.inl rfl | exact Or.inr rfl)) (pss_one (ps_asg (pe_f (ok_parent_of (K := K) T) (hr.mono (by decide)) rfl T.g_parent_of T.k_parent_of pass0 (pa_cons (pv 0) (pa_cons (pv 2) pa_nil))) (pg_sub (pv 1) (pv 2) set_list)))) (pss_one (ps_ret (pv 1))))), ?_⟩
    walk_at "go"
    refine a_lst fun l0 H1 hl0 e1 h1 => ?_
    walk_at "go"
    obtain ⟨dx, la, ra, fa, hl1⟩ := hl.mono e1
    refine fl_size T hl1 ?_
    walk_at "go"
    refine a_repI (n + 2) (by omega) h1 (by omega) fun pp H2 hpp e2 h2 => ?_
    have eH : H pp = none := e1.free hpp
    walk_at "go"
    have hl2 := (hl.mono e1).mono e2
    refine am_l hl2 ?_
    walk_at "go"
    refine ⟨l, n, ps, rfl, hl2, hn, fun ou H3 hou e3 h3 => ?_⟩
    refine a_il h3 ?_
    have nd : ((List.range' 1 n).filter (outB ps)).Nodup := List.Pairwise.filter (outB ps) (List.nodup_range' (step := 1))
    have hlen : ((List.range' 1 n).filter (outB ps)).length ≤ n := by
      have := List.length_filter_le (outB ps) (List.range' 1 n)
      rw [List.length_range'] at this
      exact this
    have mem : ∀ x, x ∈ (List.range' 1 n).filter (outB ps) ↔ Lk.at_ ps x ≠ none := fun x => by
      rw [List.mem_filter, List.mem_range'_1]
      constructor
      · rintro ⟨_, h⟩
        obtain ⟨a, b, e⟩ := outB_some h
        rw [e]; simp
      · intro h
        have := o.pos h
        obtain ⟨a, b, e⟩ := Lk.ne_none h
        exact ⟨by omega, outB_t e⟩
    generalize (List.range' 1 n).filter (outB ps) = outs at h3 nd mem hlen
    refine fo_list (xs := intsV outs) (fun i σ H' => ∃ (tv : Option V), σ = [some (.ref l), some (.ref pp), tv] ∧ Same H H' ∧ H' ou = some (.lst (intsV outs)) ∧ H' pp = some (.lst (listV n fun x => if x ∈ outs.take i then parV ps x else .int (-1))))
      ⟨none, rfl, (e1.trans e2).trans e3, h3, ?_⟩ (fun i σ H' _ ⟨tv, _, _, h, _⟩ => SqL.of h) ?_ ?_
    · rw [e3 _ _ h2]
      congr 2
      refine listV_ext (by rw [List.length_replicate]) fun i hi => ?_
      rw [List.getElem?_replicate, if_pos hi]
      simp
    · rintro i x σ H4 hi ⟨tv, rfl, e4, h4, hp4⟩
      obtain ⟨y, hy, rfl⟩ := intsV_of hi
      have hout := (mem y).mp (List.mem_of_getElem? hy)
      have hpos := o.pos hout
      walk_at "go"
      refine ⟨l, n, y, ps, rfl, hl.mono e4, o, hout, ?_⟩
      walk_at "go"
      refine a_set hp4 (by rw [listV_len]; omega) fun H5 hp5 b5 => ?_
      refine ⟨_, rfl, Same.but e4 eH b5, ?_, ?_⟩
      · rw [b5 ou (ne_of_none h2 hou).symm]
        exact h4
      · rw [hp5]
        congr 2
        refine listV_set (by omega) ?_ fun z hz hz2 => ?_
        · rw [if_pos (by rw [take_succ hy]; simp), par_t hout]
        · rw [take_succ hy]
          simp [hz]
    · rintro σ H4 ⟨tv, rfl, e4, h4, hp4⟩
      walk_at "go"
      refine q pp H4 eH e4 ?_
      rw [hp4]
      congr 2
      refine listV_congr fun z hz => ?_
      rw [intsV_len, List.take_length]
      by_cases h : Lk.at_ ps z = none
      · rw [if_neg (fun q => (mem z).mp q h), par_f h]
      · rw [if_pos ((mem z).mpr h)]
end
end Lw
set_option Elab.async false
set_option linter.all false
set_option maxRecDepth 100000
set_option maxHeartbeats 4000000
namespace Lw
open PySem PySem.Spec PyProof.Rows L2
section
variable {K : PySem.W.Frag} {mg : Str → Option Value} {H H' H1 : Hp} {n : Nat} {l dx la ra fa p : Addr} {L R F L' : List V} {Q : VK}
theorem Sb.upd (o : HO) : Sb p H (upd H p o) := fun b u hb h => by rw [upd_ne hb]; exact h
theorem Sb.free {b : Addr} (e : Sb p H H') (h : H' b = none) (hb : b ≠ p) : H b = none := by
  cases z : H b with
  | none => rfl
  | some u => rw [e b u hb z] at h; cases h
theorem Sb.same (e : Sb p H H') (h : H p = none) : Same H H' := fun b u hb => e b u (ne_of_none hb h) hb
def whole (n : Nat) : Lk.PL := List.replicate (n + 2) none
theorem whole_at {n x : Nat} : Lk.at_ (whole n) x = none := Lk.at_repl
theorem whole_lL {n x : Nat} (h : 1 ≤ x) : Lk.lL (whole n) x = x - 1 := by
  rw [Lk.lL_none whole_at]
  exact Lk.lowIn_eq whole_at ⟨by omega, whole_at, fun y h1 h2 => by omega⟩
theorem whole_lR {n x : Nat} : Lk.lR (whole n) x = x + 1 := by
  rw [Lk.lR_none whole_at]
  exact Lk.highIn_eq ⟨by omega, whole_at, fun y h1 h2 => by omega⟩
theorem whole_l (n : Nat) : rgV (-1) ((n : Int) + 1) = listV n (leftV (whole n)) := by
  refine listV_ext (by rw [rgV_length]; omega) fun i hi => ?_
  unfold rgV
  rw [List.getElem?_map, List.getElem?_range (by omega)]
  show some (V.int (-1 + (i : Int))) = _
  congr 1
  unfold leftV
  by_cases e : i = 0
  · subst e; rfl
  · rw [if_neg e, whole_lL (by omega)]
    congr 1
    omega
theorem whole_r (n : Nat) : rgV 1 ((n : Int) + 3) = listV n (rightV n (whole n)) := by
  refine listV_ext (by rw [rgV_length]; omega) fun i hi => ?_
  unfold rgV
  rw [List.getElem?_map, List.getElem?_range (by omega)]
  show some (V.int (1 + (i : Int))) = _
  congr 1
  unfold rightV
  by_cases e : i = n + 1
  · rw [if_pos e]
    congr 1
    omega
  · rw [if_neg e, whole_lR]
    congr 1
    omega
theorem whole_f (n : Nat) : List.replicate (n + 2) (V.bl false) = listV n (flagV (whole n)) := by
  refine listV_ext (by rw [List.length_replicate]) fun i hi => ?_
  rw [List.getElem?_replicate, if_pos hi, flag_f whole_at]
theorem whole_p (n : Nat) : List.replicate (n + 2) (V.int (-1)) = listV n (parV (whole n)) := by
  refine listV_ext (by rw [List.length_replicate]) fun i hi => ?_
  rw [List.getElem?_replicate, if_pos hi, par_f whole_at]
/-! setting the lists of a Links -/
theorem put_l {a b c v : V} : putF "_lefts" v (lf n a b c) = lf n v b c := by
  unfold lf
  rw [put_ne (by decide +kernel), put_eq rfl]
theorem put_r {a b c v : V} : putF "_rights" v (lf n a b c) = lf n a v c := by
  unfold lf
  rw [put_ne (by decide +kernel), put_ne (by decide +kernel), put_eq rfl]
theorem put_f {a b c v : V} : putF "_flags" v (lf n a b c) = lf n a b v := by
  unfold lf
  rw [put_ne (by decide +kernel), put_ne (by decide +kernel), put_ne (by decide +kernel), put_eq rfl]
theorem put_fl {a b v : V} : putF "_links" v (ff n a b) = ff n v b := by
  unfold ff
  rw [put_ne (by decide +kernel), put_eq rfl]
theorem put_fp {a b v : V} : putF "_parents" v (ff n a b) = ff n a v := by
  unfold ff
  rw [put_ne (by decide +kernel), put_ne (by decide +kernel), put_eq rfl]
theorem up_l {o : HO} {a : Addr} {xs : List V} (h : H a = some (.lst xs)) (ho : H l = some o) (hn : ∀ ys, o ≠ .lst ys) {o' : HO} : upd H l o' a = some (.lst xs) := by
  rw [upd_ne (ne_of h ho (fun q => hn xs q.symm))]
  exact h
theorem s_lefts (T : Tx K mg) {Z : Hp → Prop} (h : LnkAt K H l n L R F dx la ra fa) (hp : H p = some (.lst L')) (h1 : p ≠ ra) (h2 : p ≠ fa) (q : ∀ H', Sb l H H' → LnkAt K H' l n L' R F dx p ra fa → Z H') : SfR K "_lefts" (.ref p) (.ref l) Z H := by
  refine a_sf h.obj T.cLinks T.aLinks__lefts (by unfold lf; simp) (q _ (Sb.upd _) ?_)
  rw [put_l]
  exact ⟨upd_same, up_l hp h.obj (fun _ q => by cases q), up_l h.r_ h.obj (fun _ q => by cases q), up_l h.f_ h.obj (fun _ q => by cases q), h1, h2, h.rf⟩
theorem s_rights (T : Tx K mg) {Z : Hp → Prop} (h : LnkAt K H l n L R F dx la ra fa) (hp : H p = some (.lst L')) (h1 : la ≠ p) (h2 : p ≠ fa) (q : ∀ H', Sb l H H' → LnkAt K H' l n L L' F dx la p fa → Z H') : SfR K "_rights" (.ref p) (.ref l) Z H := by
  refine a_sf h.obj T.cLinks T.aLinks__rights (by unfold lf; simp) (q _ (Sb.upd _) ?_)
  rw [put_r]
  exact ⟨upd_same, up_l h.l_ h.obj (fun _ q => by cases q), up_l hp h.obj (fun _ q => by cases q), up_l h.f_ h.obj (fun _ q => by cases q), h1, h.lf_, h2⟩
theorem s_flags (T : Tx K mg) {Z : Hp → Prop} (h : LnkAt K H l n L R F dx la ra fa) (hp : H p = some (.lst L')) (h1 : la ≠ p) (h2 : ra ≠ p) (q : ∀ H', Sb l H H' → LnkAt K H' l n L R L' dx la ra p → Z H') : SfR K "_flags" (.ref p) (.ref l) Z H := by
  refine a_sf h.obj T.cLinks T.aLinks__flags (by unfold lf; simp) (q _ (Sb.upd _) ?_)
  rw [put_f]
  exact ⟨upd_same, up_l h.l_ h.obj (fun _ q => by cases q), up_l h.r_ h.obj (fun _ q => by cases q), up_l hp h.obj (fun _ q => by cases q), h.lr, h1, h2⟩
/-! the lists of a standing, changed by one operation -/
theorem op_unl {ps : Lk.PL} {n x : Nat} (o : Lk.OK n ps) (h1 : 1 ≤ x) (h2 : x ≤ n) (hx : Lk.at_ ps x = none) :
    (listV n (leftV ps)).set (Lk.lR ps x) (.int (Lk.lL ps x : Int)) = listV n (leftV (Lk.unl ps x)) ∧ (listV n (rightV n ps)).set (Lk.lL ps x) (.int (Lk.lR ps x : Int)) = listV n (rightV n (Lk.unl ps x)) ∧ (listV n (flagV ps)).set x (.bl true) = listV n (flagV (Lk.unl ps x)) := by
  have lk := o.links h1 h2
  have hl := o.len
  rw [Lk.lL_none hx, Lk.lR_none hx] at lk ⊢
  refine ⟨listV_set (by omega) ?_ fun y hy hy2 => ?_, listV_set (by omega) ?_ fun y hy hy2 => ?_, listV_set (by omega) ?_ fun y hy hy2 => ?_⟩
  · rw [leftV_pos (by omega), o.unl_lL h1 h2 hx (by omega), if_pos rfl]
  · by_cases e : y = 0
    · subst e; rfl
    · rw [leftV_pos (by omega), leftV_pos (by omega), o.unl_lL h1 h2 hx (by omega), if_neg hy]
  · rw [rightV_le (by omega), o.unl_lR h1 h2 hx, if_pos rfl]
  · by_cases e : y = n + 1
    · subst e; unfold rightV; rw [if_pos rfl, if_pos rfl]
    · rw [rightV_le (by omega), rightV_le (by omega), o.unl_lR h1 h2 hx, if_neg hy]
  · unfold flagV
    rw [Lk.unl_at (by omega) hx, if_pos rfl]
    rfl
  · unfold flagV
    rw [Lk.unl_at (by omega) hx, if_neg hy]
theorem op_rel {ps : Lk.PL} {n x a b : Nat} (o : Lk.OK n ps) (hx : Lk.at_ ps x = some (a, b)) (ha : Lk.at_ ps a = none) (hb : Lk.at_ ps b = none) :
    (listV n (leftV ps)).set b (.int (x : Int)) = listV n (leftV (Lk.rel ps x)) ∧ (listV n (rightV n ps)).set a (.int (x : Int)) = listV n (rightV n (Lk.rel ps x)) ∧ (listV n (flagV ps)).set x (.bl false) = listV n (flagV (Lk.rel ps x)) := by
  have lk := o.rng hx
  have hl := o.len
  refine ⟨listV_set (by omega) ?_ fun y hy hy2 => ?_, listV_set (by omega) ?_ fun y hy hy2 => ?_, listV_set (by omega) ?_ fun y hy hy2 => ?_⟩
  · rw [leftV_pos (by omega), o.rel_lL hx ha hb (by omega), if_pos rfl]
  · by_cases e : y = 0
    · subst e; rfl
    · rw [leftV_pos (by omega), leftV_pos (by omega), o.rel_lL hx ha hb (by omega), if_neg hy]
  · rw [rightV_le (by omega), o.rel_lR hx ha hb, if_pos rfl]
  · by_cases e : y = n + 1
    · subst e; unfold rightV; rw [if_pos rfl, if_pos rfl]
    · rw [rightV_le (by omega), rightV_le (by omega), o.rel_lR hx ha hb, if_neg hy]
  · unfold flagV Lk.rel
    rw [Lk.at_set_self (by omega)]
    rfl
  · unfold flagV Lk.rel
    rw [Lk.at_set_ne hy]
end
end Lw
set_option Elab.async false
set_option linter.all false
set_option maxRecDepth 100000
set_option maxHeartbeats 4000000
namespace Lw
open PySem PySem.Spec PyProof.Rows L2
local macro_rules | `(tactic| walk_at "h") => `(tactic| first | assumption | (refine (by assumption : Same _ _) _ _ ?_; walk_at "h"))
local macro_rules | `(tactic| walk_at "g1") => `(tactic| first
  | with_reducible refine g_seq ?_ | with_reducible refine g_asg ?_ | with_reducible refine g_name ?_ | with_reducible refine g_drop ?_ | with_reducible refine g_ret ?_ | with_reducible refine g_retN ?_
  | with_reducible refine g_next ?_ | with_reducible refine g_brk ?_ | with_reducible refine g_cont ?_ | with_reducible refine g_if ?_ | ((with_reducible show tVar _ _ _ _); refine ⟨_, rfl, ?_⟩) | with_reducible refine g_c ?_
  | with_reducible refine g_op ?_ | with_reducible refine g_un ?_ | with_reducible refine g_ifE ?_ | with_reducible refine g_test ?_ | with_reducible refine g_B ?_ | with_reducible refine g_and ?_ | with_reducible refine g_or ?_ | with_reducible refine g_not ?_
  | with_reducible refine g_andV ?_ | with_reducible refine g_orV ?_ | with_reducible refine g_notV ?_ | with_reducible refine g_nil ?_ | with_reducible refine g_cons ?_ | with_reducible refine g_cb ?_ | with_reducible refine g_f ?_
  | with_reducible refine g_bl ?_ | with_reducible refine g_blV ?_ | with_reducible refine g_part ?_ | with_reducible refine g_nopart ?_ | with_reducible refine g_sl ?_ | with_reducible refine g_intx ?_
  | with_reducible refine r_i0 ?_ | with_reducible refine r_eqi ?_ | with_reducible refine r_nei ?_ | with_reducible refine r_u ?_
  | with_reducible refine r_isN_non ?_ | with_reducible refine r_isN_ref ?_ | with_reducible refine r_isN_int ?_ | with_reducible refine r_notN_non ?_ | with_reducible refine r_notN_ref ?_
  | with_reducible refine h_lc ?_ | with_reducible refine h_for ?_ | with_reducible refine h_rng1 ?_ | with_reducible refine h_rng2 ?_ | with_reducible refine h_ilist ?_ | with_reducible refine h_lst ?_ | with_reducible refine h_tup ?_
  | with_reducible refine h_fld ?_ | with_reducible refine h_m ?_ | with_reducible refine g_sm ?_ | with_reducible refine g_cm ?_ | with_reducible refine h_mk ?_ | with_reducible refine g_chain ?_ | with_reducible refine g_asgsub ?_ | with_reducible refine g_sfld ?_
  | with_reducible refine g_bm ?_ | with_reducible refine g_bm0 ?_
  | ((with_reducible refine' r_tup0 ?gh ?_); (case gh => walk_at "h")) | ((with_reducible refine' r_tup1 ?gh ?_); (case gh => walk_at "h"))
  | ((with_reducible refine' And.intro (ty_lst ?gh) ?_); (case gh => walk_at "h"))
  | with_reducible refine h_lrg ?_ | with_reducible refine h_rg1 ?_ | with_reducible refine h_rg2 ?_ | with_reducible refine g_int2 ?_ | with_reducible refine h_sfld ?_ | with_reducible refine h_augx rfl ?_ | with_reducible refine h_tru ?_ | with_reducible refine g_ipI ?_ | with_reducible refine h_enum ?_ | with_reducible refine h_enumS ?_
  | with_reducible refine i_true ?_ | with_reducible refine i_false ?_ | with_reducible refine i_nt ?_ | with_reducible refine i_nf ?_)
local macro_rules | `(tactic| walk_at "go") => `(tactic| ((repeat' walk_at "g1"); (try dsimp only)))
section
variable {P : Program} {w : World} {K : PySem.W.Frag} {mg : Str → Option Value} {base : Heap}
theorem sc_Links___init__ : FnScope ["self", "size"] ["self", "size"] (defScope s_Links___init__) := ⟨rfl, rfl, rfl, by decide +kernel, rfl, by decide +kernel, by decide +kernel⟩
theorem bd_Links___init__ : BindsP "__init__" "Links.__init__" s_Links___init__ ["self", "size"] := fun _ _ _ _ _ _ us hl => match us, hl with | [_, _], _ => rfl
def sp_Links___init__ (K : PySem.W.Frag) : Sp := fun vs H Q _ => ∃ (x dx : Addr) (n : Nat), vs = [.ref x, .int (n : Int)] ∧ H x = some (.ins (He.ga K "Links") dx []) ∧ n ≤ 60 ∧
  ∀ H' la ra fa, Sb x H H' → H la = none → H ra = none → H fa = none → LnkAt K H' x n (listV n (leftV (whole n))) (listV n (rightV n (whole n))) (listV n (flagV (whole n))) dx la ra fa → Q .non H'
set_option maxHeartbeats 4000000 in
theorem ok_Links___init__ (T : Tx K mg) : FnR P w K mg base CX0 2 (He.ma K (He.ga K "Links") "__init__") (sp_Links___init__ K) := by
  refine (T.F_Links___init__).ok sc_Links___init__ bd_Links___init__ (fun vs H Q E h => ?_) (fun cdv A outer s H vs Q E hr h => ?_)
  · obtain ⟨x, dx, n, rfl, _⟩ := h
    rfl
  · obtain ⟨x, dx, n, rfl, hx, hn, q⟩ := h
    refine ⟨_, (pss_cons (ps_expr (pe_f (ok_check_size (K := K) T) (hr.mono (by decide)) rfl T.g_check_size T.k_check_size pass0 (pa_cons (pv 1) pa_nil))) (pss_cons (sfldK (K := K) rfl (pv 0) (pv 1)) (pss_cons (sfldK (K := K) rfl (pv 0) (pe_listRg rfl rfl T.n_list (prg_2 rfl T.n_range (pe_un un_neg pe_int) (pe_op op_add (pv 1) pe_int)))) (pss_cons (sfldK (K := K) rfl (pv 0) (pe_listRg rfl rfl T.n_list (prg_2 rfl T.n_range pe_int (pe_op op_add (pv 1) pe_int)))) (pss_one (sfldK (K := K) rfl (pv 0) (pe_op op_rep (pe_lst (pa_cons pe_bl pa_nil)) (pe_op op_add (pv 1) pe_int)))))))), ?_⟩
    walk_at "go"
    refine ⟨n, rfl, hn, ?_⟩
    walk_at "go"
    refine a_sf hx T.cLinks T.aLinks_size (by simp) ?_
    rw [put_new]
    have sb1 : Sb x H (upd H x (.ins (He.ga K "Links") dx [("size", V.int (n : Int))])) := Sb.upd _
    have hx1 : upd H x (.ins (He.ga K "Links") dx [("size", V.int (n : Int))]) x = some (.ins (He.ga K "Links") dx [("size", V.int (n : Int))]) := upd_same
    generalize upd H x (.ins (He.ga K "Links") dx [("size", V.int (n : Int))]) = H1 at sb1 hx1
    walk_at "go"
    refine a_lrg (by omega) (by omega) fun la H2 hla e2 h2 => ?_
    walk_at "go"
    refine a_sf (e2 _ _ hx1) T.cLinks T.aLinks__lefts (by simp) ?_
    have nla : la ≠ x := (ne_of_none hx1 hla).symm
    have sb3 := (sb1.trans (Same.sb e2)).trans (Sb.upd (p := x) (H := H2) (.ins (He.ga K "Links") dx (putF "_lefts" (.ref la) [("size", V.int (n : Int))])))
    have hx3 : upd H2 x (.ins (He.ga K "Links") dx (putF "_lefts" (.ref la) [("size", V.int (n : Int))])) x = some (.ins (He.ga K "Links") dx [("size", V.int (n : Int)), ("_lefts", .ref la)]) := by
      rw [upd_same, put_ne (by decide +kernel), put_new]
    have h3 : upd H2 x (.ins (He.ga K "Links") dx (putF "_lefts" (.ref la) [("size", V.int (n : Int))])) la = some (.lst (rgV (-1) ((n : Int) + 1))) := by
      rw [upd_ne nla]; exact h2
    have fr3 : ∀ b, upd H2 x (.ins (He.ga K "Links") dx (putF "_lefts" (.ref la) [("size", V.int (n : Int))])) b = none → b ≠ x ∧ b ≠ la := fun b hb => ⟨(ne_of_none hx3 hb).symm, (ne_of_none h3 hb).symm⟩
    have hlaH : H la = none := sb1.free hla nla
    generalize upd H2 x (.ins (He.ga K "Links") dx (putF "_lefts" (.ref la) [("size", V.int (n : Int))])) = H3 at sb3 hx3 h3 fr3
    walk_at "go"
    refine a_lrg (by omega) (by omega) fun ra H4 hra e4 h4 => ?_
    walk_at "go"
    refine a_sf (e4 _ _ hx3) T.cLinks T.aLinks__rights (by simp) ?_
    have nra := fr3 ra hra
    have hraH : H ra = none := sb3.free hra nra.1
    have sb5 := (sb3.trans (Same.sb e4)).trans (Sb.upd (p := x) (H := H4) (.ins (He.ga K "Links") dx (putF "_rights" (.ref ra) [("size", V.int (n : Int)), ("_lefts", .ref la)])))
    have hx5 : upd H4 x (.ins (He.ga K "Links") dx (putF "_rights" (.ref ra) [("size", V.int (n : Int)), ("_lefts", .ref la)])) x = some (.ins (He.ga K "Links") dx [("size", V.int (n : Int)), ("_lefts", .ref la), ("_rights", .ref ra)]) := by
      rw [upd_same, put_ne (by decide +kernel), put_ne (by decide +kernel), put_new]
    have h5 : upd H4 x (.ins (He.ga K "Links") dx (putF "_rights" (.ref ra) [("size", V.int (n : Int)), ("_lefts", .ref la)])) la = some (.lst (rgV (-1) ((n : Int) + 1))) := by
      rw [upd_ne nla]; exact e4 _ _ h3
    have h5r : upd H4 x (.ins (He.ga K "Links") dx (putF "_rights" (.ref ra) [("size", V.int (n : Int)), ("_lefts", .ref la)])) ra = some (.lst (rgV 1 ((n : Int) + 3))) := by
      rw [upd_ne nra.1, h4]
    generalize upd H4 x (.ins (He.ga K "Links") dx (putF "_rights" (.ref ra) [("size", V.int (n : Int)), ("_lefts", .ref la)])) = H5 at sb5 hx5 h5 h5r
    walk_at "go"
    refine a_lst fun l0 H6 hl0 e6 h6 => ?_
    walk_at "go"
    refine a_repI (n + 2) (by omega) h6 (by omega) fun fa H7 hfa e7 h7 => ?_
    walk_at "go"
    have e67 := e6.trans e7
    refine a_sf (e67 _ _ hx5) T.cLinks T.aLinks__flags (by simp) ?_
    have nfx : fa ≠ x := (ne_of_none (e6 _ _ hx5) hfa).symm
    have nfl : la ≠ fa := (ne_of_none (e6 _ _ h5) hfa)
    have nfr : ra ≠ fa := (ne_of_none (e6 _ _ h5r) hfa)
    have hfaH : H fa = none := sb5.free (e6.free hfa) nfx
    refine q _ la ra fa ((sb5.trans (Same.sb e67)).trans (Sb.upd _)) hlaH hraH hfaH ⟨?_, ?_, ?_, ?_, (fun q => nra.2 q.symm), nfl, nfr⟩
    · rw [upd_same, put_ne (by decide +kernel), put_ne (by decide +kernel), put_ne (by decide +kernel), put_new]
      rfl
    · rw [upd_ne nla, ← whole_l]
      exact e67 _ _ h5
    · rw [upd_ne nra.1, ← whole_r]
      exact e67 _ _ h5r
    · rw [upd_ne nfx, ← whole_f]
      exact h7
theorem a_newL {H : Hp} {n : Nat} {Q : VK} {E : XK} (hn : n ≤ 60) (q : ∀ l H' dx la ra fa, NewL K H H' l n (listV n (leftV (whole n))) (listV n (rightV n (whole n))) (listV n (flagV (whole n))) dx la ra fa → Q (.ref l) H') :
    MkR (He.ga K "Links") (sp_Links___init__ K) E [.int (n : Int)] Q H := by
  intro x dx hx hdx ne
  refine ⟨x, dx, n, rfl, upd_same, hn, fun H' la ra fa sb h1 h2 h3 hl => ⟨rfl, ?_⟩⟩
  have s0 : Same H (upd (upd H dx (.own x)) x (.ins (He.ga K "Links") dx [])) := Same.upd' (Same.new hdx) (by rw [upd_ne (fun q => ne q.symm)]; exact hx)
  have sb0 : Sb x H H' := (Same.sb s0).trans sb
  exact q x H' dx la ra fa ⟨hl, hx, s0.free h1, s0.free h2, s0.free h3, sb0.same hx⟩
theorem sc_Links_built : FnScope ["size", "lefts", "rights", "flags", "links"] ["size", "lefts", "rights", "flags"] (defScope s_Links_built) := ⟨rfl, rfl, rfl, by decide +kernel, rfl, by decide +kernel, by decide +kernel⟩
theorem bd_Links_built : BindsP "built" "Links.built" s_Links_built ["size", "lefts", "rights", "flags"] := fun _ _ _ _ _ _ us hl => match us, hl with | [_, _, _, _], _ => rfl
def sp_Links_built (K : PySem.W.Frag) : Sp := fun vs H Q _ => ∃ (n : Nat) (a b c : Addr) (L R F : List V), vs = [.int (n : Int), .ref a, .ref b, .ref c] ∧ H a = some (.lst L) ∧ H b = some (.lst R) ∧ H c = some (.lst F) ∧ n ≤ 60 ∧
  ∀ l H' dx la ra fa, NewL K H H' l n L R F dx la ra fa → Q (.ref l) H'
set_option maxHeartbeats 4000000 in
theorem ok_Links_built (T : Tx K mg) : FnR P w K mg base CX0 4 (He5.wf K (He.ga K "Links") "staticmethod" "built") (sp_Links_built K) := by
  refine (T.F_Links_built).ok sc_Links_built bd_Links_built (fun vs H Q E h => ?_) (fun cdv A outer s H vs Q E hr h => ?_)
  · obtain ⟨n, a, b, c, L, R, F, rfl, _⟩ := h
    rfl
  · obtain ⟨n, a, b, c, L, R, F, rfl, ha, hb, hc, hn, q⟩ := h
    refine ⟨_, (pss_cons (ps_set (i := 4) sc_Links_built.nd rfl (by first | exact Or.inl rfl | exact Or.inr rfl) (pe_mk T.mkLinks (ok_Links___init__ (K := K) T) (hr.mono (by decide)) rfl T.g_Links pass0 (pa_cons (pv 0) pa_nil))) (pss_cons (sfldK (K := K) rfl (pv 4) (pe_callTy (listK (K := K) rfl) (by rfl) T.n_list (by decide +kernel) (pa_cons (pv 1) pa_nil))) (pss_cons (sfldK (K := K) rfl (pv 4) (pe_callTy (listK (K := K) rfl) (by rfl) T.n_list (by decide +kernel) (pa_cons (pv 2) pa_nil))) (pss_cons (sfldK (K := K) rfl (pv 4) (pe_callTy (listK (K := K) rfl) (by rfl) T.n_list (by decide +kernel) (pa_cons (pv 3) pa_nil))) (pss_one (ps_ret (pv 4))))))), ?_⟩
    walk_at "go"
    refine a_newL hn fun l H1 dx la ra fa N => ?_
    walk_at "go"
    have e1 := N.same
    have L1 := N.at_
    refine a_list (e1 _ _ ha) fun p1 H2 hp1 e2 h2 => ?_
    walk_at "go"
    have L2 := L1.mono e2
    have n1 : ra ≠ p1 ∧ fa ≠ p1 ∧ l ≠ p1 := ⟨ne_of_none L1.r_ hp1, ne_of_none L1.f_ hp1, ne_of_none L1.obj hp1⟩
    refine s_lefts T L2 h2 n1.1.symm n1.2.1.symm fun H3 sb3 L3 => ?_
    walk_at "go"
    have hb3 : H3 b = some (.lst R) := sb3 _ _ (ne_of_none hb N.l_) (e2 _ _ (e1 _ _ hb))
    have hc3 : H3 c = some (.lst F) := sb3 _ _ (ne_of_none hc N.l_) (e2 _ _ (e1 _ _ hc))
    refine a_list hb3 fun p2 H4 hp2 e4 h4 => ?_
    walk_at "go"
    have L4 := L3.mono e4
    have n2 : p1 ≠ p2 ∧ fa ≠ p2 ∧ l ≠ p2 := ⟨ne_of_none L3.l_ hp2, ne_of_none L3.f_ hp2, ne_of_none L3.obj hp2⟩
    refine s_rights T L4 h4 n2.1 n2.2.1.symm fun H5 sb5 L5 => ?_
    walk_at "go"
    have hc5 : H5 c = some (.lst F) := sb5 _ _ (ne_of_none hc N.l_) (e4 _ _ hc3)
    refine a_list hc5 fun p3 H6 hp3 e6 h6 => ?_
    walk_at "go"
    have L6 := L5.mono e6
    have n3 : p1 ≠ p3 ∧ p2 ≠ p3 ∧ l ≠ p3 := ⟨ne_of_none L5.l_ hp3, ne_of_none L5.r_ hp3, ne_of_none L5.obj hp3⟩
    refine s_flags T L6 h6 n3.1 n3.2.1 fun H7 sb7 L7 => ?_
    walk_at "go"
    have s13 : Sb l H H3 := ((Same.sb e1).trans (Same.sb e2)).trans sb3
    have s15 : Sb l H H5 := (s13.trans (Same.sb e4)).trans sb5
    have s17 : Sb l H H7 := (s15.trans (Same.sb e6)).trans sb7
    exact q l H7 dx p1 p2 p3 ⟨L7, N.l_, e1.free hp1, s13.free hp2 n2.2.2.symm, s15.free hp3 n3.2.2.symm, s17.same N.l_⟩
theorem sc_Links_copy : FnScope ["self"] ["self"] (defScope s_Links_copy) := ⟨rfl, rfl, rfl, by decide +kernel, rfl, by decide +kernel, by decide +kernel⟩
theorem bd_Links_copy : BindsP "copy" "Links.copy" s_Links_copy ["self"] := fun _ _ _ _ _ _ us hl => match us, hl with | [_], _ => rfl
def sp_Links_copy (K : PySem.W.Frag) : Sp := fun vs H Q _ => ∃ (l : Addr) (n : Nat) (L R F : List V), vs = [.ref l] ∧ LnkG K H l n L R F ∧ n ≤ 60 ∧ ∀ l' H' dx la ra fa, NewL K H H' l' n L R F dx la ra fa → Q (.ref l') H'
set_option maxHeartbeats 4000000 in
theorem ok_Links_copy (T : Tx K mg) : FnR P w K mg base CX0 5 (He.ma K (He.ga K "Links") "copy") (sp_Links_copy K) := by
  refine (T.F_Links_copy).ok sc_Links_copy bd_Links_copy (fun vs H Q E h => ?_) (fun cdv A outer s H vs Q E hr h => ?_)
  · obtain ⟨l, n, L, R, F, rfl, _⟩ := h
    rfl
  · obtain ⟨l, n, L, R, F, rfl, ⟨dx, la, ra, fa, hl⟩, hn, q⟩ := h
    refine ⟨_, (pss_one (ps_ret (pe_smeth (pe_glob (v := V.ref (He.ga K "Links")) rfl T.g_Links rfl) T.crLinks T.stLinks_built (ok_Links_built (K := K) T) (hr.mono (by decide)) pass0 (pa_cons (fldK (K := K) rfl (pv 0)) (pa_cons (fldK (K := K) rfl (pv 0)) (pa_cons (fldK (K := K) rfl (pv 0)) (pa_cons (fldK (K := K) rfl (pv 0)) pa_nil))))))), ?_⟩
    walk_at "go"
    refine ⟨rfl, ?_⟩
    walk_at "go"
    refine fl_size T hl ?_
    walk_at "go"
    refine fl_lefts T hl ?_
    walk_at "go"
    refine fl_rights T hl ?_
    walk_at "go"
    refine fl_flags T hl ?_
    walk_at "go"
    exact ⟨n, la, ra, fa, L, R, F, rfl, hl.l_, hl.r_, hl.f_, hn, q⟩
theorem sc_Links_apply_at : FnScope ["self", "operation", "index", "node", "is_unlink", "low", "high"] ["self", "operation", "index"] (defScope s_Links_apply_at) := ⟨rfl, rfl, rfl, by decide +kernel, rfl, by decide +kernel, by decide +kernel⟩
theorem bd_Links_apply_at : BindsP "apply_at" "Links.apply_at" s_Links_apply_at ["self", "operation", "index"] := fun _ _ _ _ _ _ us hl => match us, hl with | [_, _, _], _ => rfl
def sp_Links_apply_at (K : PySem.W.Frag) : Sp := fun vs H Q _ => ∃ (l dx la ra fa : Addr) (n x lo hi : Nat) (op : Int) (u : Bool) (L R F : List V), vs = [.ref l, .int op, .int 0] ∧ LnkAt K H l n L R F dx la ra fa ∧
  L.length = n + 2 ∧ R.length = n + 2 ∧ F.length = n + 2 ∧ 1 ≤ x ∧ x ≤ n ∧ ((u = true ∧ op = -(x : Int)) ∨ (u = false ∧ op = (x : Int))) ∧ F[x]? = some (.bl (!u)) ∧ L[x]? = some (.int (lo : Int)) ∧ R[x]? = some (.int (hi : Int)) ∧ lo ≤ n + 1 ∧ hi ≤ n + 1 ∧
  ∀ H', B3 la ra fa H H' → LnkAt K H' l n (L.set hi (.int (if u then (lo : Int) else (x : Int)))) (R.set lo (.int (if u then (hi : Int) else (x : Int)))) (F.set x (.bl u)) dx la ra fa → Q .non H'
set_option maxHeartbeats 4000000 in
theorem ok_Links_apply_at (T : Tx K mg) : FnR P w K mg base CX0 2 (He.ma K (He.ga K "Links") "apply_at") (sp_Links_apply_at K) := by
  refine (T.F_Links_apply_at).ok sc_Links_apply_at bd_Links_apply_at (fun vs H Q E h => ?_) (fun cdv A outer s H vs Q E hr h => ?_)
  · obtain ⟨l, dx, la, ra, fa, n, x, lo, hi, op, u, L, R, F, rfl, _⟩ := h
    rfl
  · obtain ⟨l, dx, la, ra, fa, n, x, lo, hi, op, u, L, R, F, rfl, hl, l1, l2, l3, h1, h2, hop, gf, gl, gr, blo, bhi, q⟩ := h
    refine ⟨_, (pss_cons (ps_expr (pe_f (ok_check_operation (K := K) T) (hr.mono (by decide)) rfl T.g_check_operation T.k_check_operation pass0 (pa_cons (fldK (K := K) rfl (pv 0)) (pa_cons (pv 1) (pa_cons (pv 2) pa_nil))))) (pss_cons (ps_set (i := 3) sc_Links_apply_at.nd rfl (by first | exact Or.inl rfl | exact Or.inr rfl) (pe_callB absR (by rfl) T.n_abs (by decide +kernel) (pa_cons (pv 1) pa_nil))) (pss_cons (ps_set (i := 4) sc_Links_apply_at.nd rfl (by first | exact Or.inl rfl | exact Or.inr rfl) (pe_cmpR op_lt (pv 1) pe_int (nomark _))) (pss_cons (ps_if (pt_cmpR op_eq (pe_ix (ixl (K := K) rfl) (fldK (K := K) rfl (pv 0)) (pv 3) (fun _ _ => rfl)) (pv 4) (nomark _)) (pss_one ps_never) pss_nil) (pss_cons (ps_set (i := 5) sc_Links_apply_at.nd rfl (by first | exact Or.inl rfl | exact Or.inr rfl) (pe_ix (ixl (K := K) rfl) (fldK (K := K) rfl (pv 0)) (pv 3) (fun _ _ => rfl))) (pss_cons (ps_set (i := 6) sc_Links_apply_at.nd rfl (by first | exact Or.inl rfl | exact Or.inr rfl) (pe_ix (ixl (K := K) rfl) (fldK (K := K) rfl (pv 0)) (pv 3) (fun _ _ => rfl))) (pss_cons (ps_asg (pe_ifExp (pt_val (pv 4)) (pv 6) (pv 3)) (pg_sub (fldK (K := K) rfl (pv 0)) (pv 5) set_list)) (pss_cons (ps_asg (pe_ifExp (pt_val (pv 4)) (pv 5) (pv 3)) (pg_sub (fldK (K := K) rfl (pv 0)) (pv 6) set_list)) (pss_one (ps_asg (pv 4) (pg_sub (fldK (K := K) rfl (pv 0)) (pv 3) set_list))))))))))), ?_⟩
    walk_at "go"
    refine fl_size T hl ?_
    walk_at "go"
    refine ⟨n, op, 0, rfl, by omega, by omega, by omega, ?_⟩
    walk_at "go"
    refine a_abs ?_
    have eab : (if op < 0 then -op else op) = (x : Int) := by split <;> omega
    rw [eab]
    walk_at "go"
    have eu : decide (op < 0) = u := by
      rcases hop with ⟨e, e2⟩ | ⟨e, e2⟩
      · rw [e]; exact decide_eq_true (by omega)
      · rw [e]; exact decide_eq_false (by omega)
    rw [eu]
    refine fl_flags T hl ?_
    walk_at "go"
    refine r_ixl hl.f_ gf ?_
    walk_at "go"
    refine r_eqb ?_
    walk_at "go"
    refine i_no (by cases u <;> decide) ?_
    walk_at "go"
    refine fl_lefts T hl ?_
    walk_at "go"
    refine r_ixl hl.l_ gl ?_
    walk_at "go"
    refine fl_rights T hl ?_
    walk_at "go"
    refine r_ixl hl.r_ gr ?_
    walk_at "go"
    have K1 : ∀ z : Prop, z = z := fun _ => rfl
    have tail : ∀ H', B3 la ra fa H H' → LnkAt K H' l n (L.set hi (.int (if u then (lo : Int) else (x : Int)))) (R.set lo (.int (if u then (hi : Int) else (x : Int)))) (F.set x (.bl u)) dx la ra fa → Q .non H' := q
    have obj : ∀ {H' : Hp} {p : Addr} {xs : List V}, H p = some (.lst xs) → (∀ b, b ≠ p → H' b = H b) → H' l = H l := fun hp b => b l (ne_of hl.obj hp (by intro q; cases q))
    cases u with
    | true =>
      refine i_true ?_
      walk_at "go"
      refine fl_rights T hl ?_
      walk_at "go"
      refine a_set hl.r_ (by omega) fun H1 hv1 b1 => ?_
      have L1 : LnkAt K H1 l n L (R.set lo (.int (hi : Int))) F dx la ra fa := ⟨by rw [b1 l (ne_of hl.obj hl.r_ (by intro q; cases q))]; exact hl.obj, by rw [b1 la hl.lr]; exact hl.l_, hv1, by rw [b1 fa (fun q => hl.rf q.symm)]; exact hl.f_, hl.lr, hl.lf_, hl.rf⟩
      walk_at "go"
      refine fl_lefts T L1 ?_
      walk_at "go"
      refine a_set L1.l_ (by omega) fun H2 hv2 b2 => ?_
      have L2 : LnkAt K H2 l n (L.set hi (.int (lo : Int))) (R.set lo (.int (hi : Int))) F dx la ra fa := ⟨by rw [b2 l (ne_of L1.obj L1.l_ (by intro q; cases q))]; exact L1.obj, hv2, by rw [b2 ra (fun q => hl.lr q.symm)]; exact L1.r_, by rw [b2 fa (fun q => hl.lf_ q.symm)]; exact L1.f_, hl.lr, hl.lf_, hl.rf⟩
      walk_at "go"
      refine fl_flags T L2 ?_
      walk_at "go"
      refine a_set L2.f_ (by omega) fun H3 hv3 b3 => ?_
      refine tail H3 (fun b k1 k2 k3 => by rw [b3 b k3, b2 b k1, b1 b k2]) ⟨by rw [b3 l (ne_of L2.obj L2.f_ (by intro q; cases q))]; exact L2.obj, by rw [b3 la hl.lf_]; exact L2.l_, by rw [b3 ra hl.rf]; exact L2.r_, hv3, hl.lr, hl.lf_, hl.rf⟩
    | false =>
      refine i_false ?_
      walk_at "go"
      refine fl_rights T hl ?_
      walk_at "go"
      refine a_set hl.r_ (by omega) fun H1 hv1 b1 => ?_
      have L1 : LnkAt K H1 l n L (R.set lo (.int (x : Int))) F dx la ra fa := ⟨by rw [b1 l (ne_of hl.obj hl.r_ (by intro q; cases q))]; exact hl.obj, by rw [b1 la hl.lr]; exact hl.l_, hv1, by rw [b1 fa (fun q => hl.rf q.symm)]; exact hl.f_, hl.lr, hl.lf_, hl.rf⟩
      walk_at "go"
      refine fl_lefts T L1 ?_
      walk_at "go"
      refine a_set L1.l_ (by omega) fun H2 hv2 b2 => ?_
      have L2 : LnkAt K H2 l n (L.set hi (.int (x : Int))) (R.set lo (.int (x : Int))) F dx la ra fa := ⟨by rw [b2 l (ne_of L1.obj L1.l_ (by intro q; cases q))]; exact L1.obj, hv2, by rw [b2 ra (fun q => hl.lr q.symm)]; exact L1.r_, by rw [b2 fa (fun q => hl.lf_ q.symm)]; exact L1.f_, hl.lr, hl.lf_, hl.rf⟩
      walk_at "go"
      refine fl_flags T L2 ?_
      walk_at "go"
      refine a_set L2.f_ (by omega) fun H3 hv3 b3 => ?_
      refine tail H3 (fun b k1 k2 k3 => by rw [b3 b k3, b2 b k1, b1 b k2]) ⟨by rw [b3 l (ne_of L2.obj L2.f_ (by intro q; cases q))]; exact L2.obj, by rw [b3 la hl.lf_]; exact L2.l_, by rw [b3 ra hl.rf]; exact L2.r_, hv3, hl.lr, hl.lf_, hl.rf⟩
theorem sc_Links_apply : FnScope ["self", "operation"] ["self", "operation"] (defScope s_Links_apply) := ⟨rfl, rfl, rfl, by decide +kernel, rfl, by decide +kernel, by decide +kernel⟩
theorem bd_Links_apply : BindsP "apply" "Links.apply" s_Links_apply ["self", "operation"] := fun _ _ _ _ _ _ us hl => match us, hl with | [_, _], _ => rfl
def sp_Links_apply (K : PySem.W.Frag) : Sp := fun vs H Q _ => ∃ (l dx la ra fa : Addr) (n x : Nat) (op : Int) (ps ps' : Lk.PL), vs = [.ref l, .int op] ∧ LnkAt K H l n (listV n (leftV ps)) (listV n (rightV n ps)) (listV n (flagV ps)) dx la ra fa ∧ Lk.OK n ps ∧
  ((op = -(x : Int) ∧ 1 ≤ x ∧ x ≤ n ∧ Lk.at_ ps x = none ∧ ps' = Lk.unl ps x) ∨ (op = (x : Int) ∧ Lk.isTop ps x ∧ ps' = Lk.rel ps x)) ∧
  ∀ H', B3 la ra fa H H' → LnkAt K H' l n (listV n (leftV ps')) (listV n (rightV n ps')) (listV n (flagV ps')) dx la ra fa → Q .non H'
set_option maxHeartbeats 4000000 in
theorem ok_Links_apply (T : Tx K mg) : FnR P w K mg base CX0 3 (He.ma K (He.ga K "Links") "apply") (sp_Links_apply K) := by
  refine (T.F_Links_apply).ok sc_Links_apply bd_Links_apply (fun vs H Q E h => ?_) (fun cdv A outer s H vs Q E hr h => ?_)
  · obtain ⟨l, dx, la, ra, fa, n, x, op, ps, ps', rfl, _⟩ := h
    rfl
  · obtain ⟨l, dx, la, ra, fa, n, x, op, ps, ps', rfl, hl, o, hop, q⟩ := h
    refine ⟨_, (pss_one (ps_expr (pe_m (pv 0) T.cLinks T.mLinks_apply_at (ok_Links_apply_at (K := K) T) (hr.mono (by decide)) pass0 (pa_cons (pv 1) (pa_cons pe_int pa_nil))))), ?_⟩
    walk_at "go"
    refine am_l ⟨dx, la, ra, fa, hl⟩ ?_
    walk_at "go"
    rcases hop with ⟨rfl, h1, h2, hx, rfl⟩ | ⟨rfl, ⟨a, b, e, ha, hb⟩, rfl⟩
    · obtain ⟨e1, e2, e3⟩ := op_unl o h1 h2 hx
      have lk := o.links h1 h2
      refine ⟨l, dx, la, ra, fa, n, x, Lk.lL ps x, Lk.lR ps x, _, true, _, _, _, rfl, hl, listV_len _ _, listV_len _ _, listV_len _ _, h1, h2, .inl ⟨rfl, rfl⟩, by rw [listV_get (by omega), flag_f hx]; rfl, by rw [listV_get (by omega), leftV_pos h1], by rw [listV_get (by omega), rightV_le h2], by omega, by omega, fun H' b hl' => ?_⟩
      rw [if_pos rfl, if_pos rfl, e1, e2, e3] at hl'
      exact q H' b hl'
    · obtain ⟨e1, e2, e3⟩ := op_rel o e ha hb
      have lk := o.rng e
      have hp := o.pos (x := x) (by rw [e]; simp)
      refine ⟨l, dx, la, ra, fa, n, x, a, b, _, false, _, _, _, rfl, hl, listV_len _ _, listV_len _ _, listV_len _ _, hp.1, hp.2, .inr ⟨rfl, rfl⟩, by rw [listV_get (by omega), flag_t e]; rfl, by rw [listV_get (by omega), leftV_pos hp.1, Lk.lL_some e], by rw [listV_get (by omega), rightV_le hp.2, Lk.lR_some e], by omega, by omega, fun H' b hl' => ?_⟩
      rw [if_neg (by decide), if_neg (by decide), e1, e2, e3] at hl'
      exact q H' b hl'
end
end Lw
set_option Elab.async false
set_option linter.all false
set_option maxRecDepth 100000
set_option maxHeartbeats 4000000
namespace Lw
open PySem PySem.Spec PyProof.Rows L2
def EnR (K : PySem.W.Frag) (vs : List V) (R : It → Hp → Prop) (H1 : Hp) : Prop := ∃ a xs, vs = [V.ref a] ∧ SqL K H1 a xs ∧ R (Ite K a) H1
def EnSR (vs : List V) (R : It → Hp → Prop) (H1 : Hp) : Prop := ∃ x : Str, vs = [V.str x] ∧ R (Ites x) H1
theorem enumK {X : Cx} {K : PySem.W.Frag} {e : Expr} {ta : TA} {p pos tpos : Pos} {elts : List Expr} {kk : Nat} (h : X.K = K) (hg : Gl X "enumerate") (hm : X.mg "enumerate" = none) (ha : PA X [e] ta) (hs : starEach [e] X.env = [(false, eval e X.env)] := by rfl) :
    PI X (.Tuple elts kk tpos) (.Call (.Name "enumerate" p) [e] [] pos) (iEnum K ta) := by subst h; exact pi_enum hg hm ha hs
section
variable {K : PySem.W.Frag} {H : Hp} {σ : L2.St} {R : It → Hp → Prop} {ta : TA} {a : Addr} {xs : List V} {x : Str} {g : TG} {tb : TS} {D : Ends} {Q : VK}
theorem h_enum (h : ta σ H fun vs H1 => EnR K vs R H1) : iEnum K ta σ H R := h
theorem h_enumS (h : ta σ H fun vs H1 => EnSR vs R H1) : iEnumS ta σ H R := h
theorem a_en (hs : H a = some (.lst xs)) (h : R (Ite K a) H) : EnR K [.ref a] R H := ⟨a, xs, rfl, SqL.of hs, h⟩
theorem a_ens (h : R (Ites x) H) : EnSR [.str x] R H := ⟨x, rfl, h⟩
theorem fo_enum (Pv : Nat → L2.St → Hp → Prop) (h0 : Pv 0 σ H) (hl : ∀ i σ H, i ≤ xs.length → Pv i σ H → SqL K H a xs)
    (hs : ∀ i x t σ H H', xs[i]? = some x → Pv i σ H → H t = none → Same H H' → H' t = some (.tup [.int (i : Nat), x]) → g (.ref t) σ H' fun σ2 H2 => tb { D with nx := Pv (i + 1), ct := Pv (i + 1), bk := D.nx } σ2 H2) (hd : ∀ σ H, Pv xs.length σ H → D.nx σ H) : ForR (Ite K a) g tb D σ H := by
  refine ⟨fun i m σ H => m = xs.length - i ∧ i ≤ xs.length ∧ Pv i σ H, ⟨xs.length, by simp, Nat.zero_le _, h0⟩, ?_⟩
  rintro i m σ H ⟨rfl, hi, p⟩
  have q := hl i σ H hi p
  by_cases hlt : i < xs.length
  · refine .inr ⟨⟨xs, xs[i], q, by simp [hlt]⟩, Pv (i + 1), fun σ' H' p' => ⟨xs.length - (i + 1), by omega, rfl, hlt, p'⟩, fun x H' y => ?_⟩
    obtain ⟨T, x, rfl, hT, rfl, y⟩ := y
    exact hs i x T σ H _ (y xs q) p hT (Same.new hT) upd_same
  · have e : i = xs.length := by omega
    subst e
    exact .inl ⟨⟨xs, q, Nat.le_refl _⟩, hd σ H p⟩
theorem fo_enumS (Pv : Nat → L2.St → Hp → Prop) (h0 : Pv 0 σ H)
    (hs : ∀ i c t σ H H', x.cps[i]? = some c → Pv i σ H → H t = none → Same H H' → H' t = some (.tup [.int (i : Nat), .str ⟨#[c]⟩]) → g (.ref t) σ H' fun σ2 H2 => tb { D with nx := Pv (i + 1), ct := Pv (i + 1), bk := D.nx } σ2 H2) (hd : ∀ σ H, Pv x.cps.size σ H → D.nx σ H) : ForR (Ites x) g tb D σ H := by
  refine ⟨fun i m σ H => m = x.cps.size - i ∧ i ≤ x.cps.size ∧ Pv i σ H, ⟨x.cps.size, by simp, Nat.zero_le _, h0⟩, ?_⟩
  rintro i m σ H ⟨rfl, hi, p⟩
  by_cases hlt : i < x.cps.size
  · refine .inr ⟨hlt, Pv (i + 1), fun σ' H' p' => ⟨x.cps.size - (i + 1), by omega, rfl, hlt, p'⟩, fun v H' y => ?_⟩
    obtain ⟨T, c, rfl, hT, hc, rfl⟩ := y
    exact hs i c T σ H _ hc p hT (Same.new hT) upd_same
  · have e : i = x.cps.size := by omega
    subst e
    exact .inl ⟨Nat.le_refl _, hd σ H p⟩
theorem h_m1 {r : V → List V → Hp → VK → Prop} {to te : TE} (h : to σ H fun x H1 => (∃ a, x = .str a) ∧ te σ H1 fun y H2 => r x [y] H2 Q) : tM1 r to te σ H Q := h
theorem g_isS {s : Str} {Z : Prop} (h : Z) : (∃ a, V.str s = .str a) ∧ Z := ⟨⟨s, rfl⟩, h⟩
theorem cutV_take {xs : List V} {i : Nat} (h : i ≤ xs.length) : cutV xs none (some ((i : Nat) : Int)) = xs.take i := by
  unfold cutV
  rw [HT.sIx_none, HT.sIx_nat, List.drop_zero, Nat.sub_zero, Nat.min_eq_left h]
theorem flat_ints (ns : List Nat) : (intsV ns).all flatV = true := by
  unfold intsV
  rw [List.all_map, List.all_eq_true]
  intro x _
  rfl
theorem eqV_int {i j : Int} : eqV (.int i) (.int j) = decide (i = j) := by
  first
    | rfl
    | (unfold eqV; by_cases h : i = j <;> simp [h])
theorem inV_ints {x : Nat} {ns : List Nat} : inV (.int (x : Int)) (intsV ns) = decide (x ∈ ns) := by
  unfold inV intsV
  rw [List.any_map]
  by_cases h : x ∈ ns
  · rw [decide_eq_true h, List.any_eq_true]
    exact ⟨x, h, by show eqV (.int (x : Int)) (.int (x : Int)) = true; rw [eqV_int]; simp⟩
  · rw [decide_eq_false h, List.any_eq_false]
    intro y hy q
    have q2 : eqV (.int (y : Int)) (.int (x : Int)) = true := q
    rw [eqV_int] at q2
    have := of_decide_eq_true q2
    exact h (by have e : y = x := by omega
                exact e ▸ hy)
theorem a_in {ns : List Nat} {x : Nat} (h : H a = some (.lst (intsV ns))) (q : Q (.bl (decide (x ∈ ns))) H) : rIn K false (.int (x : Int)) (.ref a) H Q :=
  ⟨a, _, rfl, .inl (SqL.of h), rfl, flat_ints ns, by rw [if_neg (by decide), inV_ints]; exact q⟩
theorem a_nin {ns : List Nat} {x : Nat} (h : H a = some (.lst (intsV ns))) (q : Q (.bl (!decide (x ∈ ns))) H) : rIn K true (.int (x : Int)) (.ref a) H Q :=
  ⟨a, _, rfl, .inl (SqL.of h), rfl, flat_ints ns, by rw [if_pos rfl, inV_ints]; exact q⟩
theorem cdiv {j : Nat} (h : 1 ≤ j) (h2 : j ≤ 64 ^ 60) {i : Int} : CDivW i (j : Int) := by
  refine wide_div (b := 400) (by omega) ?_ (by decide) (by decide)
  have : (64 : Nat) ^ 60 < 2 ^ 400 := by decide
  rw [Int.natAbs_natCast]
  omega
end
/-! ### frames for the standings -/
section
variable {K : PySem.W.Frag} {mg : Str → Option Value} {H H' : Hp} {n : Nat} {f dx l q p : Addr} {ps : Lk.PL}
def isOutZ (n : Nat) (ps : Lk.PL) (z : Int) : Bool := if 1 ≤ z ∧ z ≤ n then outB ps z.toNat else false
def outsN (n : Nat) (ps : Lk.PL) : List Nat := (List.range' 1 n).filter (outB ps)
theorem outsN_len (n : Nat) (ps : Lk.PL) : (outsN n ps).length ≤ n := by
  have := List.length_filter_le (outB ps) (List.range' 1 n)
  rw [List.length_range'] at this
  exact this
theorem outsN_nodup (n : Nat) (ps : Lk.PL) : (outsN n ps).Nodup := List.Pairwise.filter (outB ps) (List.nodup_range' (step := 1))
theorem outsN_mem {n : Nat} {ps : Lk.PL} (o : Lk.OK n ps) {x : Nat} : x ∈ outsN n ps ↔ Lk.at_ ps x ≠ none := by
  unfold outsN
  rw [List.mem_filter, List.mem_range'_1]
  constructor
  · rintro ⟨_, h⟩
    obtain ⟨a, b, e⟩ := outB_some h
    rw [e]; simp
  · intro h
    have := o.pos h
    obtain ⟨a, b, e⟩ := Lk.ne_none h
    exact ⟨by omega, outB_t e⟩
def hookZ (n : Nat) (ps : Lk.PL) : Int := ((Builtin.Math.factorialNat (outsN n ps).length : Nat) : Int) / ((Lk.prodW ps (outsN n ps) : Nat) : Int)
theorem s_flinks (T : Tx K mg) {Z : Hp → Prop} {l' : Addr} (h : ForAt K H f n ps dx l q) {ps' : Lk.PL} (hl : LinksAt K H l' n ps') (qp : ∀ H', Sb f H H' → H' f = some (.ins (He.ga K "Forest") dx (ff n (.ref l') (.ref q))) → LinksAt K H' l' n ps' → Z H') : SfR K "_links" (.ref l') (.ref f) Z H := by
  refine a_sf h.obj T.cForest T.aForest__links (by unfold ff; simp) (qp _ (Sb.upd _) (by rw [put_fl]; exact upd_same) ?_)
  obtain ⟨dx', la, ra, fa, hl⟩ := hl
  have nf : l' ≠ f := by
    intro e
    have h1 := hl.obj
    rw [e, h.obj] at h1
    have h2 := HO.ins.inj (Option.some.inj h1)
    have h3 := congrArg List.length h2.2.2
    unfold lf ff at h3
    simp at h3
  exact ⟨dx', la, ra, fa, by rw [upd_ne nf]; exact hl.obj, up_l hl.l_ h.obj (fun _ q => by cases q), up_l hl.r_ h.obj (fun _ q => by cases q), up_l hl.f_ h.obj (fun _ q => by cases q), hl.lr, hl.lf_, hl.rf⟩
end
end Lw
set_option Elab.async false
set_option linter.all false
set_option maxRecDepth 100000
set_option maxHeartbeats 4000000
namespace Lw
open PySem PySem.Spec PyProof.Rows L2
local macro_rules | `(tactic| walk_at "h") => `(tactic| first | assumption | (refine (by assumption : Same _ _) _ _ ?_; walk_at "h"))
local macro_rules | `(tactic| walk_at "g1") => `(tactic| first
  | with_reducible refine g_seq ?_ | with_reducible refine g_asg ?_ | with_reducible refine g_name ?_ | with_reducible refine g_drop ?_ | with_reducible refine g_ret ?_ | with_reducible refine g_retN ?_
  | with_reducible refine g_next ?_ | with_reducible refine g_brk ?_ | with_reducible refine g_cont ?_ | with_reducible refine g_if ?_ | ((with_reducible show tVar _ _ _ _); refine ⟨_, rfl, ?_⟩) | with_reducible refine g_c ?_
  | with_reducible refine g_op ?_ | with_reducible refine g_un ?_ | with_reducible refine g_ifE ?_ | with_reducible refine g_test ?_ | with_reducible refine g_B ?_ | with_reducible refine g_and ?_ | with_reducible refine g_or ?_ | with_reducible refine g_not ?_
  | with_reducible refine g_andV ?_ | with_reducible refine g_orV ?_ | with_reducible refine g_notV ?_ | with_reducible refine g_nil ?_ | with_reducible refine g_cons ?_ | with_reducible refine g_cb ?_ | with_reducible refine g_f ?_
  | with_reducible refine g_bl ?_ | with_reducible refine g_blV ?_ | with_reducible refine g_part ?_ | with_reducible refine g_nopart ?_ | with_reducible refine g_sl ?_ | with_reducible refine g_intx ?_
  | with_reducible refine r_i0 ?_ | with_reducible refine r_eqi ?_ | with_reducible refine r_nei ?_ | with_reducible refine r_u ?_
  | with_reducible refine r_isN_non ?_ | with_reducible refine r_isN_ref ?_ | with_reducible refine r_isN_int ?_ | with_reducible refine r_notN_non ?_ | with_reducible refine r_notN_ref ?_
  | with_reducible refine h_lc ?_ | with_reducible refine h_for ?_ | with_reducible refine h_rng1 ?_ | with_reducible refine h_rng2 ?_ | with_reducible refine h_ilist ?_ | with_reducible refine h_lst ?_ | with_reducible refine h_tup ?_
  | with_reducible refine h_fld ?_ | with_reducible refine h_m ?_ | with_reducible refine g_sm ?_ | with_reducible refine g_cm ?_ | with_reducible refine h_mk ?_ | with_reducible refine g_chain ?_ | with_reducible refine g_asgsub ?_ | with_reducible refine g_sfld ?_
  | with_reducible refine g_bm ?_ | with_reducible refine g_bm0 ?_
  | ((with_reducible refine' r_tup0 ?gh ?_); (case gh => walk_at "h")) | ((with_reducible refine' r_tup1 ?gh ?_); (case gh => walk_at "h"))
  | ((with_reducible refine' And.intro (ty_lst ?gh) ?_); (case gh => walk_at "h"))
  | with_reducible refine h_lrg ?_ | with_reducible refine h_rg1 ?_ | with_reducible refine h_rg2 ?_ | with_reducible refine g_int2 ?_ | with_reducible refine h_sfld ?_ | with_reducible refine h_augx rfl ?_ | with_reducible refine h_tru ?_ | with_reducible refine g_ipI ?_ | with_reducible refine h_enum ?_ | with_reducible refine h_enumS ?_
  | with_reducible refine i_true ?_ | with_reducible refine i_false ?_ | with_reducible refine i_nt ?_ | with_reducible refine i_nf ?_)
local macro_rules | `(tactic| walk_at "go") => `(tactic| ((repeat' walk_at "g1"); (try dsimp only)))
section
variable {P : Program} {w : World} {K : PySem.W.Frag} {mg : Str → Option Value} {base : Heap}
theorem sc_Forest___init__ : FnScope ["self", "size"] ["self", "size"] (defScope s_Forest___init__) := ⟨rfl, rfl, rfl, by decide +kernel, rfl, by decide +kernel, by decide +kernel⟩
theorem bd_Forest___init__ : BindsP "__init__" "Forest.__init__" s_Forest___init__ ["self", "size"] := fun _ _ _ _ _ _ us hl => match us, hl with | [_, _], _ => rfl
def sp_Forest___init__ (K : PySem.W.Frag) : Sp := fun vs H Q _ => ∃ (x dx : Addr) (n : Nat), vs = [.ref x, .int (n : Int)] ∧ H x = some (.ins (He.ga K "Forest") dx []) ∧ n ≤ 60 ∧
  ∀ H' l q, Sb x H H' → ForAt K H' x n (whole n) dx l q → Q .non H'
set_option maxHeartbeats 4000000 in
theorem ok_Forest___init__ (T : Tx K mg) : FnR P w K mg base CX0 4 (He.ma K (He.ga K "Forest") "__init__") (sp_Forest___init__ K) := by
  refine (T.F_Forest___init__).ok sc_Forest___init__ bd_Forest___init__ (fun vs H Q E h => ?_) (fun cdv A outer s H vs Q E hr h => ?_)
  · obtain ⟨x, dx, n, rfl, _⟩ := h
    rfl
  · obtain ⟨x, dx, n, rfl, hx, hn, q⟩ := h
    refine ⟨_, (pss_cons (ps_expr (pe_f (ok_check_size (K := K) T) (hr.mono (by decide)) rfl T.g_check_size T.k_check_size pass0 (pa_cons (pv 1) pa_nil))) (pss_cons (sfldK (K := K) rfl (pv 0) (pv 1)) (pss_cons (sfldK (K := K) rfl (pv 0) (pe_mk T.mkLinks (ok_Links___init__ (K := K) T) (hr.mono (by decide)) rfl T.g_Links pass0 (pa_cons (pv 1) pa_nil))) (pss_one (sfldK (K := K) rfl (pv 0) (pe_op op_rep (pe_lst (pa_cons (pe_un un_neg pe_int) pa_nil)) (pe_op op_add (pv 1) pe_int))))))), ?_⟩
    walk_at "go"
    refine ⟨n, rfl, hn, ?_⟩
    walk_at "go"
    refine a_sf hx T.cForest T.aForest_size (by simp) ?_
    rw [put_new]
    have sb1 : Sb x H (upd H x (.ins (He.ga K "Forest") dx [("size", V.int (n : Int))])) := Sb.upd _
    have hx1 : upd H x (.ins (He.ga K "Forest") dx [("size", V.int (n : Int))]) x = some (.ins (He.ga K "Forest") dx [("size", V.int (n : Int))]) := upd_same
    generalize upd H x (.ins (He.ga K "Forest") dx [("size", V.int (n : Int))]) = H1 at sb1 hx1
    walk_at "go"
    refine a_newL hn fun l H2 ldx la ra fa N => ?_
    walk_at "go"
    refine a_sf (N.same _ _ hx1) T.cForest T.aForest__links (by simp) ?_
    have nlx : l ≠ x := (ne_of_none hx1 N.l_).symm
    have hL := N.at_
    have sb3 := (sb1.trans (Same.sb N.same)).trans (Sb.upd (p := x) (H := H2) (.ins (He.ga K "Forest") dx (putF "_links" (.ref l) [("size", V.int (n : Int))])))
    have hx3 : upd H2 x (.ins (He.ga K "Forest") dx (putF "_links" (.ref l) [("size", V.int (n : Int))])) x = some (.ins (He.ga K "Forest") dx [("size", V.int (n : Int)), ("_links", .ref l)]) := by
      rw [upd_same, put_ne (by decide +kernel), put_new]
    have nl : ∀ {a : Addr}, H1 a = none → a ≠ x := fun ha => (ne_of_none hx1 ha).symm
    have hL3 : LnkAt K (upd H2 x (.ins (He.ga K "Forest") dx (putF "_links" (.ref l) [("size", V.int (n : Int))]))) l n _ _ _ ldx la ra fa := ⟨by rw [upd_ne nlx]; exact hL.obj, by rw [upd_ne (nl N.a_)]; exact hL.l_, by rw [upd_ne (nl N.r_)]; exact hL.r_, by rw [upd_ne (nl N.f_)]; exact hL.f_, hL.lr, hL.lf_, hL.rf⟩
    generalize upd H2 x (.ins (He.ga K "Forest") dx (putF "_links" (.ref l) [("size", V.int (n : Int))])) = H3 at sb3 hx3 hL3
    walk_at "go"
    refine a_lst fun l0 H4 hl0 e4 h4 => ?_
    walk_at "go"
    refine a_repI (n + 2) (by omega) h4 (by omega) fun pa H5 hpa e5 h5 => ?_
    walk_at "go"
    have e45 := e4.trans e5
    refine a_sf (e45 _ _ hx3) T.cForest T.aForest__parents (by simp) ?_
    have npx : pa ≠ x := (ne_of_none (e4 _ _ hx3) hpa).symm
    have hL5 := hL3.mono e45
    refine q _ l pa ((sb3.trans (Same.sb e45)).trans (Sb.upd _)) ⟨?_, ⟨ldx, la, ra, fa, by rw [upd_ne nlx]; exact hL5.obj, by rw [upd_ne (nl N.a_)]; exact hL5.l_, by rw [upd_ne (nl N.r_)]; exact hL5.r_, by rw [upd_ne (nl N.f_)]; exact hL5.f_, hL.lr, hL.lf_, hL.rf⟩, ?_⟩
    · rw [upd_same, put_ne (by decide +kernel), put_ne (by decide +kernel), put_new]
      rfl
    · rw [upd_ne npx, h5, ← whole_p]
theorem a_newF {H : Hp} {n : Nat} {Q : VK} {E : XK} (hn : n ≤ 60) (q : ∀ f H' dx l q, H f = none → Same H H' → ForAt K H' f n (whole n) dx l q → Q (.ref f) H') :
    MkR (He.ga K "Forest") (sp_Forest___init__ K) E [.int (n : Int)] Q H := by
  intro x dx hx hdx ne
  refine ⟨x, dx, n, rfl, upd_same, hn, fun H' l pq sb hl => ⟨rfl, ?_⟩⟩
  have s0 : Same H (upd (upd H dx (.own x)) x (.ins (He.ga K "Forest") dx [])) := Same.upd' (Same.new hdx) (by rw [upd_ne (fun q => ne q.symm)]; exact hx)
  have sb0 : Sb x H H' := (Same.sb s0).trans sb
  exact q x H' dx l pq hx (sb0.same hx) hl
theorem sc_Forest_grown : FnScope ["links", "forest"] ["links"] (defScope s_Forest_grown) := ⟨rfl, rfl, rfl, by decide +kernel, rfl, by decide +kernel, by decide +kernel⟩
theorem bd_Forest_grown : BindsP "grown" "Forest.grown" s_Forest_grown ["links"] := fun _ _ _ _ _ _ us hl => match us, hl with | [_], _ => rfl
def sp_Forest_grown (K : PySem.W.Frag) : Sp := fun vs H Q _ => ∃ (l : Addr) (n : Nat) (ps : Lk.PL), vs = [.ref l] ∧ LinksAt K H l n ps ∧ Lk.OK n ps ∧ n ≤ 60 ∧ ∀ f H', H f = none → Same H H' → ForestAt K H' f n ps → Q (.ref f) H'
set_option maxHeartbeats 4000000 in
theorem ok_Forest_grown (T : Tx K mg) : FnR P w K mg base CX0 6 (He5.wf K (He.ga K "Forest") "staticmethod" "grown") (sp_Forest_grown K) := by
  refine (T.F_Forest_grown).ok sc_Forest_grown bd_Forest_grown (fun vs H Q E h => ?_) (fun cdv A outer s H vs Q E hr h => ?_)
  · obtain ⟨l, n, ps, rfl, _⟩ := h
    rfl
  · obtain ⟨l, n, ps, rfl, hl, o, hn, q⟩ := h
    refine ⟨_, (pss_cons (ps_set (i := 1) sc_Forest_grown.nd rfl (by first | exact Or.inl rfl | exact Or.inr rfl) (pe_mk T.mkForest (ok_Forest___init__ (K := K) T) (hr.mono (by decide)) rfl T.g_Forest pass0 (pa_cons (fldK (K := K) rfl (pv 0)) pa_nil))) (pss_cons (sfldK (K := K) rfl (pv 1) (pe_m0r (pv 0) T.cLinks T.mLinks_copy (ok_Links_copy (K := K) T) (hr.mono (by decide)) pass0)) (pss_cons (sfldK (K := K) rfl (pv 1) (pe_f (ok_parents_of (K := K) T) (hr.mono (by decide)) rfl T.g_parents_of T.k_parents_of pass0 (pa_cons (pv 0) pa_nil))) (pss_one (ps_ret (pv 1)))))), ?_⟩
    walk_at "go"
    obtain ⟨dx, la, ra, fa, hl'⟩ := hl
    have hl : LinksAt K H l n ps := ⟨dx, la, ra, fa, hl'⟩
    refine fl_size T hl' ?_
    walk_at "go"
    refine a_newF hn fun f H1 fdx l0 q0 hf e1 F1 => ?_
    walk_at "go"
    have hl1 := hl.mono e1
    refine am_l hl1 ?_
    walk_at "go"
    refine ⟨l, n, _, _, _, rfl, hl1, hn, fun l' H2 dx' la' ra' fa' N => ?_⟩
    walk_at "go"
    refine s_flinks T (F1.mono N.same) (ps' := ps) ⟨dx', la', ra', fa', N.at_⟩ fun H3 sb3 hf3 hl3 => ?_
    walk_at "go"
    have s3 : Same H H3 := (((Same.sb e1).trans (Same.sb N.same)).trans sb3).same hf
    refine ⟨l, n, ps, rfl, hl.mono s3, o, hn, fun pp H4 hpp e4 h4 => ?_⟩
    walk_at "go"
    refine a_sf (e4 _ _ hf3) T.cForest T.aForest__parents (by unfold ff; simp) ?_
    rw [put_fp]
    walk_at "go"
    have hf4 := e4 _ _ hf3
    have sb5 : Sb f H (upd H4 f (.ins (He.ga K "Forest") fdx (ff n (.ref l') (.ref pp)))) := ((Same.sb s3).trans (Same.sb e4)).trans (Sb.upd _)
    refine q f _ hf (sb5.same hf) ⟨fdx, l', pp, upd_same, ?_, ?_⟩
    · obtain ⟨d, a1, a2, a3, hL⟩ := hl3.mono e4
      have nf : l' ≠ f := by
        intro e
        have h1 := hL.obj
        rw [e, hf4] at h1
        have h2 := HO.ins.inj (Option.some.inj h1)
        have h3 := congrArg List.length h2.2.2
        unfold lf ff at h3
        simp at h3
      exact ⟨d, a1, a2, a3, by rw [upd_ne nf]; exact hL.obj, up_l hL.l_ hf4 (fun _ q => by cases q), up_l hL.r_ hf4 (fun _ q => by cases q), up_l hL.f_ hf4 (fun _ q => by cases q), hL.lr, hL.lf_, hL.rf⟩
    · exact up_l h4 hf4 (fun _ q => by cases q)
theorem sc_Forest_of : FnScope ["links"] ["links"] (defScope s_Forest_of) := ⟨rfl, rfl, rfl, by decide +kernel, rfl, by decide +kernel, by decide +kernel⟩
theorem bd_Forest_of : BindsP "of" "Forest.of" s_Forest_of ["links"] := fun _ _ _ _ _ _ us hl => match us, hl with | [_], _ => rfl
def sp_Forest_of (K : PySem.W.Frag) : Sp := fun vs H Q _ => ∃ (l : Addr) (n : Nat) (ps : Lk.PL), vs = [.ref l] ∧ LinksAt K H l n ps ∧ Lk.OK n ps ∧ n ≤ 60 ∧ ∀ f H', H f = none → Same H H' → ForestAt K H' f n ps → Q (.ref f) H'
set_option maxHeartbeats 4000000 in
theorem ok_Forest_of (T : Tx K mg) : FnR P w K mg base CX0 7 (He5.wf K (He.ga K "Forest") "staticmethod" "of") (sp_Forest_of K) := by
  refine (T.F_Forest_of).ok sc_Forest_of bd_Forest_of (fun vs H Q E h => ?_) (fun cdv A outer s H vs Q E hr h => ?_)
  · obtain ⟨l, n, ps, rfl, _⟩ := h
    rfl
  · obtain ⟨l, n, ps, rfl, hl, o, hn, q⟩ := h
    refine ⟨_, (pss_cons (ps_if (pt_not (pt_val (pe_f (ok_has_trees (K := K) T) (hr.mono (by decide)) rfl T.g_has_trees T.k_has_trees pass0 (pa_cons (pv 0) pa_nil)))) (pss_one ps_never) pss_nil) (pss_one (ps_ret (pe_smeth (pe_glob (v := V.ref (He.ga K "Forest")) rfl T.g_Forest rfl) T.crForest T.stForest_grown (ok_Forest_grown (K := K) T) (hr.mono (by decide)) pass0 (pa_cons (pv 0) pa_nil))))), ?_⟩
    walk_at "go"
    refine ⟨l, n, ps, rfl, hl, o, hn, fun H1 e1 => ?_⟩
    walk_at "go"
    refine ⟨rfl, ?_⟩
    walk_at "go"
    refine ⟨l, n, ps, rfl, hl.mono e1, o, hn, fun f H2 hf e2 F => ?_⟩
    exact q f H2 (e1.free hf) (e1.trans e2) F
theorem sc_Forest_tops : FnScope ["self", "node"] ["self"] (defScope s_Forest_tops) := ⟨rfl, rfl, rfl, by decide +kernel, rfl, by decide +kernel, by decide +kernel⟩
theorem bd_Forest_tops : BindsP "tops" "Forest.tops" s_Forest_tops ["self"] := fun _ _ _ _ _ _ us hl => match us, hl with | [_], _ => rfl
def sp_Forest_tops (K : PySem.W.Frag) : Sp := fun vs H Q _ => ∃ (f : Addr) (n : Nat) (ps : Lk.PL), vs = [.ref f] ∧ ForestAt K H f n ps ∧ Lk.OK n ps ∧ n ≤ 60 ∧ ∀ p' H', H p' = none → Same H H' → H' p' = some (.lst (intsV ((List.range' 1 n).filter (topB ps)))) → Q (.ref p') H'
set_option maxHeartbeats 4000000 in
theorem ok_Forest_tops (T : Tx K mg) : FnR P w K mg base CX0 1 (He.ma K (He.ga K "Forest") "tops") (sp_Forest_tops K) := by
  refine (T.F_Forest_tops).ok sc_Forest_tops bd_Forest_tops (fun vs H Q E h => ?_) (fun cdv A outer s H vs Q E hr h => ?_)
  · obtain ⟨f, n, ps, rfl, _⟩ := h
    rfl
  · obtain ⟨f, n, ps, rfl, ⟨dx, l, pq, hf⟩, o, hn, q⟩ := h
    refine ⟨_, (pss_one (ps_ret (pe_lc (own := [("node", 1)]) (g := gName 1) rfl sc_Forest_tops.nd (pi_range2 rfl T.n_range (pa_cons pe_int (pa_cons (pe_op op_add (fldK (K := K) rfl (pv 0)) pe_int) pa_nil))) (blkOk_by (own := [("node", 1)]) (N := ["self", "node"]) (sc := defScope s_Forest_tops) (by decide +kernel)) (fun _ _ _ _ _ => pg_name (i := 1) sc_Forest_tops.nd rfl (Or.inl rfl)) (fun _ _ _ _ _ => (pts_one (pt_cmpR op_eq (pe_ix (ixl (K := K) rfl) (fldK (K := K) rfl (pv 0)) (pv 1) (fun _ _ => rfl)) pe_int (nomark _)))) (fun _ _ _ _ _ => (pv 1))))), ?_⟩
    walk_at "go"
    refine fl_fsize T hf ?_
    walk_at "go"
    refine a_r2 1 n rfl (by omega) (by omega) ?_
    refine l_rN (topB ps) (fun i => .int (i : Int)) (by omega) (fun _ => rfl) (fun i H1 _ hi e R k => ?_) (fun i H1 _ hi e hf R k => ?_) (fun D H1 hD e1 hd => ?_)
    · have hf1 := hf.mono e
      walk_at "go"
      refine fl_parents T hf1 ?_
      walk_at "go"
      refine r_ixl hf1.par (listV_get (by omega)) ?_
      rcases Lk.opt2 (Lk.at_ ps i) with ei | ⟨a, b, ei⟩
      · rw [par_f ei]
        walk_at "go"
        have k := k H1 (Same.refl _)
        rw [topB_none ei] at k
        exact k
      · have hne : Lk.at_ ps i ≠ none := by rw [ei]; simp
        rw [par_t hne]
        walk_at "go"
        have k := k H1 (Same.refl _)
        have e : decide ((Lk.par ps i : Int) = 0) = topB ps i := by
          have h1 := o.par_top hne
          by_cases h : Lk.par ps i = 0
          · rw [decide_eq_true (by omega), topB_iff.mpr (h1.mp h)]
          · rw [decide_eq_false (by omega)]
            cases z : topB ps i with
            | false => rfl
            | true => exact absurd (h1.mpr (topB_iff.mp z)) h
        rw [e]
        exact k
    · walk_at "go"
      exact k H1 (Same.refl _)
    exact q D H1 hD e1 hd
theorem sc_Forest___len__ : FnScope ["self"] ["self"] (defScope s_Forest___len__) := ⟨rfl, rfl, rfl, by decide +kernel, rfl, by decide +kernel, by decide +kernel⟩
theorem bd_Forest___len__ : BindsP "__len__" "Forest.__len__" s_Forest___len__ ["self"] := fun _ _ _ _ _ _ us hl => match us, hl with | [_], _ => rfl
def sp_Forest___len__ (K : PySem.W.Frag) : Sp := fun vs H Q _ => ∃ (f : Addr) (n : Nat) (ps : Lk.PL), vs = [.ref f] ∧ ForestAt K H f n ps ∧ n ≤ 60 ∧ ∀ H', Same H H' → Q (.int ((outsN n ps).length : Nat)) H'
set_option maxHeartbeats 4000000 in
theorem ok_Forest___len__ (T : Tx K mg) : FnR P w K mg base CX0 2 (He.ma K (He.ga K "Forest") "__len__") (sp_Forest___len__ K) := by
  refine (T.F_Forest___len__).ok sc_Forest___len__ bd_Forest___len__ (fun vs H Q E h => ?_) (fun cdv A outer s H vs Q E hr h => ?_)
  · obtain ⟨f, n, ps, rfl, _⟩ := h
    rfl
  · obtain ⟨f, n, ps, rfl, ⟨dx, l, pq, hf⟩, hn, q⟩ := h
    refine ⟨_, (pss_one (ps_ret (pe_callB (lenK (K := K) rfl) (by rfl) T.n_len PySem.boot_len (pa_cons (pe_m0r (fldK (K := K) rfl (pv 0)) T.cLinks T.mLinks_outs (ok_Links_outs (K := K) T) (hr.mono (by decide)) pass0) pa_nil)))), ?_⟩
    walk_at "go"
    refine fl_links T hf ?_
    walk_at "go"
    refine am_l hf.lnk ?_
    walk_at "go"
    refine ⟨l, n, ps, rfl, hf.lnk, hn, fun D H1 hD e1 hd => ?_⟩
    walk_at "go"
    refine a_len hd ?_
    rw [intsV_len]
    exact q H1 e1
theorem sc_Forest___contains__ : FnScope ["self", "node"] ["self", "node"] (defScope s_Forest___contains__) := ⟨rfl, rfl, rfl, by decide +kernel, rfl, by decide +kernel, by decide +kernel⟩
theorem bd_Forest___contains__ : BindsP "__contains__" "Forest.__contains__" s_Forest___contains__ ["self", "node"] := fun _ _ _ _ _ _ us hl => match us, hl with | [_, _], _ => rfl
def sp_Forest___contains__ (K : PySem.W.Frag) : Sp := fun vs H Q _ => ∃ (f : Addr) (n : Nat) (ps : Lk.PL) (z : Int), vs = [.ref f, .int z] ∧ ForestAt K H f n ps ∧ Lk.OK n ps ∧ n ≤ 60 ∧ Q (.bl (isOutZ n ps z)) H
set_option maxHeartbeats 4000000 in
theorem ok_Forest___contains__ (T : Tx K mg) : FnR P w K mg base CX0 1 (He.ma K (He.ga K "Forest") "__contains__") (sp_Forest___contains__ K) := by
  refine (T.F_Forest___contains__).ok sc_Forest___contains__ bd_Forest___contains__ (fun vs H Q E h => ?_) (fun cdv A outer s H vs Q E hr h => ?_)
  · obtain ⟨f, n, ps, z, rfl, _⟩ := h
    rfl
  · obtain ⟨f, n, ps, z, rfl, ⟨dx, l, pq, hf⟩, o, hn, q⟩ := h
    refine ⟨_, (pss_one (ps_ret (pe_and (pe_chain op_le op_le pe_int (pv 1) (fldK (K := K) rfl (pv 0))) (pe_one (pe_cmpR op_ge (pe_ix (ixl (K := K) rfl) (fldK (K := K) rfl (pv 0)) (pv 1) (fun _ _ => rfl)) pe_int (nomark _)))))), ?_⟩
    walk_at "go"
    unfold isOutZ at q
    refine i_dec (fun c1 => ?_) (fun c1 => ?_)
    · walk_at "go"
      refine fl_fsize T hf ?_
      walk_at "go"
      refine i_dec (fun c2 => ?_) (fun c2 => ?_)
      · walk_at "go"
        rw [if_pos ⟨c1, c2⟩] at q
        refine fl_parents T hf ?_
        walk_at "go"
        obtain ⟨x, rfl⟩ : ∃ x : Nat, z = (x : Int) := ⟨z.toNat, by omega⟩
        rw [Int.toNat_natCast] at q
        refine r_ixl hf.par (listV_get (by omega)) ?_
        rcases Lk.opt2 (Lk.at_ ps x) with ei | ⟨a, b, ei⟩
        · rw [par_f ei]
          rw [outB_f ei] at q
          walk_at "go"
          exact q
        · rw [par_t (by rw [ei]; simp)]
          rw [outB_t ei] at q
          walk_at "go"
          rw [decide_eq_true (by omega)]
          exact q
      · walk_at "go"
        rw [if_neg (fun h => c2 h.2)] at q
        exact q
    · walk_at "go"
      rw [if_neg (fun h => c1 h.1)] at q
      exact q
theorem sc_Forest__check_node : FnScope ["self", "node"] ["self", "node"] (defScope s_Forest__check_node) := ⟨rfl, rfl, rfl, by decide +kernel, rfl, by decide +kernel, by decide +kernel⟩
theorem bd_Forest__check_node : BindsP "_check_node" "Forest._check_node" s_Forest__check_node ["self", "node"] := fun _ _ _ _ _ _ us hl => match us, hl with | [_, _], _ => rfl
def sp_Forest__check_node (K : PySem.W.Frag) : Sp := fun vs H Q _ => ∃ (f : Addr) (n x : Nat) (ps : Lk.PL), vs = [.ref f, .int (x : Int)] ∧ ForestAt K H f n ps ∧ 1 ≤ x ∧ x ≤ n ∧ Q .non H
set_option maxHeartbeats 4000000 in
theorem ok_Forest__check_node (T : Tx K mg) : FnR P w K mg base CX0 1 (He.ma K (He.ga K "Forest") "_check_node") (sp_Forest__check_node K) := by
  refine (T.F_Forest__check_node).ok sc_Forest__check_node bd_Forest__check_node (fun vs H Q E h => ?_) (fun cdv A outer s H vs Q E hr h => ?_)
  · obtain ⟨f, n, x, ps, rfl, _⟩ := h
    rfl
  · obtain ⟨f, n, x, ps, rfl, ⟨dx, l, pq, hf⟩, h1, h2, q⟩ := h
    refine ⟨_, (pss_one (ps_if (pt_not (pt_chain op_le op_le pe_int (pv 1) (fldK (K := K) rfl (pv 0)))) (pss_one ps_never) pss_nil)), ?_⟩
    walk_at "go"
    refine i_yes (by omega) ?_
    walk_at "go"
    refine fl_fsize T hf ?_
    walk_at "go"
    refine n_yes (by omega) ?_
    walk_at "go"
    exact q
theorem sc_Forest_unlinked : FnScope ["self", "node", "links"] ["self", "node"] (defScope s_Forest_unlinked) := ⟨rfl, rfl, rfl, by decide +kernel, rfl, by decide +kernel, by decide +kernel⟩
theorem bd_Forest_unlinked : BindsP "unlinked" "Forest.unlinked" s_Forest_unlinked ["self", "node"] := fun _ _ _ _ _ _ us hl => match us, hl with | [_, _], _ => rfl
def sp_Forest_unlinked (K : PySem.W.Frag) : Sp := fun vs H Q _ => ∃ (f : Addr) (n x : Nat) (ps : Lk.PL), vs = [.ref f, .int (x : Int)] ∧ ForestAt K H f n ps ∧ Lk.OK n ps ∧ n ≤ 60 ∧ 1 ≤ x ∧ x ≤ n ∧ Lk.at_ ps x = none ∧ ∀ f' H', H f' = none → Same H H' → ForestAt K H' f' n (Lk.unl ps x) → Q (.ref f') H'
set_option maxHeartbeats 4000000 in
theorem ok_Forest_unlinked (T : Tx K mg) : FnR P w K mg base CX0 7 (He.ma K (He.ga K "Forest") "unlinked") (sp_Forest_unlinked K) := by
  refine (T.F_Forest_unlinked).ok sc_Forest_unlinked bd_Forest_unlinked (fun vs H Q E h => ?_) (fun cdv A outer s H vs Q E hr h => ?_)
  · obtain ⟨f, n, x, ps, rfl, _⟩ := h
    rfl
  · obtain ⟨f, n, x, ps, rfl, hF, o, hn, h1, h2, hx, q⟩ := h
    obtain ⟨dx, l, pq, hf⟩ := hF
    have hF : ForestAt K H f n ps := ⟨dx, l, pq, hf⟩
    refine ⟨_, (pss_cons (ps_expr (pe_m (pv 0) T.cForest T.mForest__check_node (ok_Forest__check_node (K := K) T) (hr.mono (by decide)) pass0 (pa_cons (pv 1) pa_nil))) (pss_cons (ps_set (i := 2) sc_Forest_unlinked.nd rfl (by first | exact Or.inl rfl | exact Or.inr rfl) (pe_m0r (fldK (K := K) rfl (pv 0)) T.cLinks T.mLinks_copy (ok_Links_copy (K := K) T) (hr.mono (by decide)) pass0)) (pss_cons (ps_expr (pe_m (pv 2) T.cLinks T.mLinks_apply (ok_Links_apply (K := K) T) (hr.mono (by decide)) pass0 (pa_cons (pe_un un_neg (pv 1)) pa_nil))) (pss_one (ps_ret (pe_smeth (pe_glob (v := V.ref (He.ga K "Forest")) rfl T.g_Forest rfl) T.crForest T.stForest_grown (ok_Forest_grown (K := K) T) (hr.mono (by decide)) pass0 (pa_cons (pv 2) pa_nil))))))), ?_⟩
    walk_at "go"
    refine am_f hF ?_
    walk_at "go"
    refine ⟨f, n, x, ps, rfl, hF, h1, h2, ?_⟩
    walk_at "go"
    refine fl_links T hf ?_
    walk_at "go"
    refine am_l hf.lnk ?_
    walk_at "go"
    refine ⟨l, n, _, _, _, rfl, hf.lnk, hn, fun l' H2 dx' la' ra' fa' N => ?_⟩
    walk_at "go"
    refine am_l ⟨_, _, _, _, N.at_⟩ ?_
    walk_at "go"
    refine ⟨l', dx', la', ra', fa', n, x, _, ps, _, rfl, N.at_, o, .inl ⟨rfl, h1, h2, hx, rfl⟩, fun H3 b3 hl3 => ?_⟩
    have e3 := N.b3 b3
    walk_at "go"
    refine ⟨rfl, ?_⟩
    walk_at "go"
    refine ⟨l', n, Lk.unl ps x, rfl, ⟨_, _, _, _, hl3⟩, o.unl h1 h2 hx, hn, fun f' H4 hf' e4 F => ?_⟩
    exact q f' H4 (e3.free hf') (e3.trans e4) F
theorem sc_Forest_relinked : FnScope ["self", "node", "links"] ["self", "node"] (defScope s_Forest_relinked) := ⟨rfl, rfl, rfl, by decide +kernel, rfl, by decide +kernel, by decide +kernel⟩
theorem bd_Forest_relinked : BindsP "relinked" "Forest.relinked" s_Forest_relinked ["self", "node"] := fun _ _ _ _ _ _ us hl => match us, hl with | [_, _], _ => rfl
def sp_Forest_relinked (K : PySem.W.Frag) : Sp := fun vs H Q _ => ∃ (f : Addr) (n x : Nat) (ps : Lk.PL), vs = [.ref f, .int (x : Int)] ∧ ForestAt K H f n ps ∧ Lk.OK n ps ∧ n ≤ 60 ∧ Lk.isTop ps x ∧ ∀ f' H', H f' = none → Same H H' → ForestAt K H' f' n (Lk.rel ps x) → Q (.ref f') H'
set_option maxHeartbeats 4000000 in
theorem ok_Forest_relinked (T : Tx K mg) : FnR P w K mg base CX0 7 (He.ma K (He.ga K "Forest") "relinked") (sp_Forest_relinked K) := by
  refine (T.F_Forest_relinked).ok sc_Forest_relinked bd_Forest_relinked (fun vs H Q E h => ?_) (fun cdv A outer s H vs Q E hr h => ?_)
  · obtain ⟨f, n, x, ps, rfl, _⟩ := h
    rfl
  · obtain ⟨f, n, x, ps, rfl, hF, o, hn, ht, q⟩ := h
    obtain ⟨dx, l, pq, hf⟩ := hF
    have hF : ForestAt K H f n ps := ⟨dx, l, pq, hf⟩
    have hne : Lk.at_ ps x ≠ none := by obtain ⟨a, b, e, _⟩ := ht; rw [e]; simp
    have hx := o.pos hne
    refine ⟨_, (pss_cons (ps_expr (pe_m (pv 0) T.cForest T.mForest__check_node (ok_Forest__check_node (K := K) T) (hr.mono (by decide)) pass0 (pa_cons (pv 1) pa_nil))) (pss_cons (ps_if (pt_cmpR op_gt (pe_ix (ixl (K := K) rfl) (fldK (K := K) rfl (pv 0)) (pv 1) (fun _ _ => rfl)) pe_int (nomark _)) (pss_one ps_never) pss_nil) (pss_cons (ps_set (i := 2) sc_Forest_relinked.nd rfl (by first | exact Or.inl rfl | exact Or.inr rfl) (pe_m0r (fldK (K := K) rfl (pv 0)) T.cLinks T.mLinks_copy (ok_Links_copy (K := K) T) (hr.mono (by decide)) pass0)) (pss_cons (ps_expr (pe_m (pv 2) T.cLinks T.mLinks_apply (ok_Links_apply (K := K) T) (hr.mono (by decide)) pass0 (pa_cons (pv 1) pa_nil))) (pss_one (ps_ret (pe_smeth (pe_glob (v := V.ref (He.ga K "Forest")) rfl T.g_Forest rfl) T.crForest T.stForest_grown (ok_Forest_grown (K := K) T) (hr.mono (by decide)) pass0 (pa_cons (pv 2) pa_nil)))))))), ?_⟩
    walk_at "go"
    refine am_f hF ?_
    walk_at "go"
    refine ⟨f, n, x, ps, rfl, hF, hx.1, hx.2, ?_⟩
    walk_at "go"
    refine fl_parents T hf ?_
    walk_at "go"
    refine r_ixl hf.par (listV_get (by omega)) ?_
    rw [par_t hne, (o.par_top hne).mpr ht]
    walk_at "go"
    refine i_no (by omega) ?_
    walk_at "go"
    refine fl_links T hf ?_
    walk_at "go"
    refine am_l hf.lnk ?_
    walk_at "go"
    refine ⟨l, n, _, _, _, rfl, hf.lnk, hn, fun l' H2 dx' la' ra' fa' N => ?_⟩
    walk_at "go"
    refine am_l ⟨_, _, _, _, N.at_⟩ ?_
    walk_at "go"
    refine ⟨l', dx', la', ra', fa', n, x, _, ps, _, rfl, N.at_, o, .inr ⟨rfl, ht, rfl⟩, fun H3 b3 hl3 => ?_⟩
    have e3 := N.b3 b3
    walk_at "go"
    refine ⟨rfl, ?_⟩
    walk_at "go"
    refine ⟨l', n, Lk.rel ps x, rfl, ⟨_, _, _, _, hl3⟩, o.rel ht, hn, fun f' H4 hf' e4 F => ?_⟩
    exact q f' H4 (e3.free hf') (e3.trans e4) F
theorem sc_Forest_ways_back : FnScope ["self", "outs", "sizes", "node"] ["self"] (defScope s_Forest_ways_back) := ⟨rfl, rfl, rfl, by decide +kernel, rfl, by decide +kernel, by decide +kernel⟩
theorem bd_Forest_ways_back : BindsP "ways_back" "Forest.ways_back" s_Forest_ways_back ["self"] := fun _ _ _ _ _ _ us hl => match us, hl with | [_], _ => rfl
def sp_Forest_ways_back (K : PySem.W.Frag) : Sp := fun vs H Q _ => ∃ (f : Addr) (n : Nat) (ps : Lk.PL), vs = [.ref f] ∧ ForestAt K H f n ps ∧ Lk.OK n ps ∧ n ≤ 60 ∧ ∀ H', Same H H' → Q (.int (hookZ n ps)) H'
set_option maxHeartbeats 4000000 in
theorem ok_Forest_ways_back (T : Tx K mg) : FnR P w K mg base CX0 2 (He.ma K (He.ga K "Forest") "ways_back") (sp_Forest_ways_back K) := by
  refine (T.F_Forest_ways_back).ok sc_Forest_ways_back bd_Forest_ways_back (fun vs H Q E h => ?_) (fun cdv A outer s H vs Q E hr h => ?_)
  · obtain ⟨f, n, ps, rfl, _⟩ := h
    rfl
  · obtain ⟨f, n, ps, rfl, ⟨dx, l, pq, hf⟩, o, hn, q⟩ := h
    refine ⟨_, (pss_cons (ps_set (i := 1) sc_Forest_ways_back.nd rfl (by first | exact Or.inl rfl | exact Or.inr rfl) (pe_m0r (fldK (K := K) rfl (pv 0)) T.cLinks T.mLinks_outs (ok_Links_outs (K := K) T) (hr.mono (by decide)) pass0)) (pss_cons (ps_set (i := 2) sc_Forest_ways_back.nd rfl (by first | exact Or.inl rfl | exact Or.inr rfl) pe_int) (pss_cons (ps_for PassesOwn.never rfl (pilK (K := K) rfl (pv 1)) (pg_name (i := 3) sc_Forest_ways_back.nd rfl (by first | exact Or.inl rfl | exact Or.inr rfl)) (pss_one (ps_aug (i := 2) sc_Forest_ways_back.nd rfl (by first | exact Or.inl rfl | exact Or.inr rfl) (pe_op op_sub (pe_op op_sub (pe_m (fldK (K := K) rfl (pv 0)) T.cLinks T.mLinks_right (ok_Links_right (K := K) T) (hr.mono (by decide)) pass0 (pa_cons (pv 3) pa_nil)) (pe_m (fldK (K := K) rfl (pv 0)) T.cLinks T.mLinks_left (ok_Links_left (K := K) T) (hr.mono (by decide)) pass0 (pa_cons (pv 3) pa_nil))) pe_int) ip_mul))) (pss_one (ps_ret (pe_op op_fdivW (pe_callBfun cr_fact rfl T.g_factorial (pa_cons (pe_callB (lenK (K := K) rfl) (by rfl) T.n_len PySem.boot_len (pa_cons (pv 1) pa_nil)) pa_nil)) (pv 2))))))), ?_⟩
    walk_at "go"
    refine fl_links T hf ?_
    walk_at "go"
    refine am_l hf.lnk ?_
    walk_at "go"
    refine ⟨l, n, ps, rfl, hf.lnk, hn, fun D H1 hD e1 hd => ?_⟩
    have hd : H1 D = some (.lst (intsV (outsN n ps))) := hd
    have hlen := outsN_len n ps
    have mem : ∀ x, x ∈ outsN n ps → Lk.at_ ps x ≠ none := fun x => (outsN_mem o).mp
    have wd : ∀ x, x ∈ outsN n ps → 1 ≤ Lk.lR ps x - Lk.lL ps x - 1 ∧ Lk.lR ps x - Lk.lL ps x - 1 ≤ 64 := fun x hx => by
      obtain ⟨a, b, e⟩ := Lk.ne_none (mem x hx)
      rw [Lk.lR_some e, Lk.lL_some e]
      have := o.rng e
      omega
    walk_at "go"
    refine a_il hd ?_
    refine fo_list (xs := intsV (outsN n ps)) (fun i σ H' => ∃ (tv : Option V), H' = H1 ∧ σ = [some (.ref f), some (.ref D), some (.int (Lk.prodW ps ((outsN n ps).take i) : Nat)), tv])
      ⟨none, rfl, rfl⟩ (fun i σ H' _ ⟨tv, e, _⟩ => by rw [e]; exact SqL.of hd) ?_ ?_
    · rintro i x σ H2 hi ⟨tv, rfl, rfl⟩
      obtain ⟨y, hy, rfl⟩ := intsV_of hi
      have hy2 := List.mem_of_getElem? hy
      have hout := mem y hy2
      have hwd := wd y hy2
      have hpos := o.pos hout
      have lk := o.links hpos.1 hpos.2
      have hf1 := hf.mono e1
      walk_at "go"
      refine fl_links T hf1 ?_
      walk_at "go"
      refine am_l hf1.lnk ?_
      walk_at "go"
      refine ⟨l, n, y, _, _, _, _, rfl, hf1.lnk, hpos.2, listV_get (by omega), ?_⟩
      rw [rightV_le hpos.2]
      walk_at "go"
      refine fl_links T hf1 ?_
      walk_at "go"
      refine am_l hf1.lnk ?_
      walk_at "go"
      refine ⟨l, n, y, _, _, _, _, rfl, hf1.lnk, hpos.1, by omega, listV_get (by omega), ?_⟩
      rw [leftV_pos hpos.1]
      walk_at "go"
      refine ⟨.inr ⟨by omega, by omega⟩, ?_⟩
      refine ⟨some (.int (y : Int)), rfl, ?_⟩
      rw [take_succ hy, Lk.prodW_snoc]
      have e : ((Lk.prodW ps ((outsN n ps).take i) : Nat) : Int) * ((Lk.lR ps y : Int) - (Lk.lL ps y : Int) - 1) = ((Lk.prodW ps ((outsN n ps).take i) * (Lk.lR ps y - Lk.lL ps y - 1) : Nat) : Int) := by
        rw [Int.natCast_mul]
        congr 1
        omega
      rw [e]
      rfl
    · rintro σ H2 ⟨tv, rfl, rfl⟩
      walk_at "go"
      refine a_len hd ?_
      walk_at "go"
      rw [intsV_len, List.take_length]
      refine ⟨_, rfl, by omega, ?_⟩
      walk_at "go"
      refine r_i (cdiv (Lk.prodW_pos fun x hx => (wd x hx).1) (Nat.le_trans (Lk.prodW_le fun x hx => (wd x hx).2) (Nat.pow_le_pow_right (by decide) (by omega)))) ?_
      exact q H2 e1
end
end Lw
set_option Elab.async false
set_option linter.all false
set_option maxRecDepth 100000
set_option maxHeartbeats 4000000
namespace Lw
open PySem PySem.Spec PyProof.Rows L2
/-! ### texts -/
def mkS (l : List Nat) : Str := ⟨l.toArray⟩
theorem mkS_app (a b : List Nat) : mkS a ++ mkS b = mkS (a ++ b) := by
  show Str.mk ((mkS a).cps ++ (mkS b).cps) = _
  unfold mkS
  simp
theorem mkS_len (a : List Nat) : (mkS a).length = a.length := by unfold mkS Str.length; simp
theorem s_dot : Str.ofString "." = mkS [46] := by decide +kernel
theorem s_star : Str.ofString "*" = mkS [42] := by decide +kernel
theorem s_open : Str.ofString "(" = mkS [40] := by decide +kernel
theorem s_close : Str.ofString ")" = mkS [41] := by decide +kernel
theorem s_empty : Str.ofString "" = mkS [] := by decide +kernel
theorem opCat {X : Cx} : OpR X (binaryOp .Add) rAddS := op_add_str
def opB (ps : Lk.PL) (a v : Nat) : Bool := match Lk.at_ ps v with
  | none => false
  | some (c, _) => decide (c = a)
def clB (ps : Lk.PL) (b v : Nat) : Bool := match Lk.at_ ps v with
  | none => false
  | some (_, d) => decide (d = b)
theorem opB_n {ps : Lk.PL} {a v : Nat} (h : Lk.at_ ps v = none) : opB ps a v = false := by unfold opB; rw [h]
theorem opB_s {ps : Lk.PL} {a v c d : Nat} (h : Lk.at_ ps v = some (c, d)) : opB ps a v = decide (c = a) := by unfold opB; rw [h]
theorem clB_n {ps : Lk.PL} {a v : Nat} (h : Lk.at_ ps v = none) : clB ps a v = false := by unfold clB; rw [h]
theorem clB_s {ps : Lk.PL} {a v c d : Nat} (h : Lk.at_ ps v = some (c, d)) : clB ps a v = decide (d = a) := by unfold clB; rw [h]
def opn (ps : Lk.PL) (a : Nat) : Nat := ((List.range' 0 ps.length).filter (opB ps a)).length
def clo (ps : Lk.PL) (b : Nat) : Nat := ((List.range' 0 ps.length).filter (clB ps b)).length
theorem opn_le (ps : Lk.PL) (a : Nat) : opn ps a ≤ ps.length := by
  have := List.length_filter_le (opB ps a) (List.range' 0 ps.length)
  rw [List.length_range'] at this
  exact this
theorem clo_le (ps : Lk.PL) (a : Nat) : clo ps a ≤ ps.length := by
  have := List.length_filter_le (clB ps a) (List.range' 0 ps.length)
  rw [List.length_range'] at this
  exact this
/-- the signs of one node -/
def wordL (ps : Lk.PL) (x : Nat) : List Nat := if (Lk.at_ ps x).isNone then [46] else List.replicate (opn ps (x - 1)) 40 ++ [42] ++ List.replicate (clo ps (x + 1)) 41
theorem wordL_in {ps : Lk.PL} {x : Nat} (h : Lk.at_ ps x = none) : wordL ps x = [46] := by unfold wordL; rw [h]; rfl
theorem wordL_out {ps : Lk.PL} {x a b : Nat} (h : Lk.at_ ps x = some (a, b)) : wordL ps x = List.replicate (opn ps (x - 1)) 40 ++ [42] ++ List.replicate (clo ps (x + 1)) 41 := by unfold wordL; rw [h]; rfl
def textOf (n : Nat) (ps : Lk.PL) : Str := Txt.join (Str.ofString "") ((List.range' 1 n).map fun x => mkS (wordL ps x))
theorem range_ends (n : Nat) : List.range' 0 (n + 2) = 0 :: (List.range' 1 n ++ [n + 1]) := by
  have h1 : List.range' 0 (n + 2) = 0 :: List.range' 1 (n + 1) := rfl
  rw [h1, List.range'_concat, Nat.one_mul, Nat.add_comm 1 n]
theorem filt_ends {n : Nat} {f : Nat → Bool} (h0 : f 0 = false) (h1 : f (n + 1) = false) : (List.range' 0 (n + 2)).filter f = (List.range' 1 n).filter f := by
  rw [range_ends, List.filter_cons, if_neg (by rw [h0]; decide), List.filter_append, List.filter_cons, if_neg (by rw [h1]; decide)]
  simp
theorem opn_eq {n : Nat} {ps : Lk.PL} (o : Lk.OK n ps) {x : Nat} (hx : 1 ≤ x) : ((outsN n ps).filter fun v => decide (Lk.lL ps v + 1 = x)).length = opn ps (x - 1) := by
  unfold opn outsN
  rw [o.len, filt_ends (opB_n o.h0) (opB_n o.hn), List.filter_filter]
  congr 1
  refine List.filter_congr fun v hv => ?_
  rcases Lk.opt2 (Lk.at_ ps v) with e | ⟨a, b, e⟩
  · rw [outB_f e, opB_n e, Bool.and_false]
  · rw [outB_t e, opB_s e, Lk.lL_some e, Bool.and_true]
    by_cases h : a + 1 = x
    · rw [decide_eq_true h, decide_eq_true (by omega)]
    · rw [decide_eq_false h, decide_eq_false (by omega)]
theorem clo_eq {n : Nat} {ps : Lk.PL} (o : Lk.OK n ps) {x : Nat} : ((outsN n ps).filter fun v => decide (Lk.lR ps v - 1 = x)).length = clo ps (x + 1) := by
  unfold clo outsN
  rw [o.len, filt_ends (clB_n o.h0) (clB_n o.hn), List.filter_filter]
  congr 1
  refine List.filter_congr fun v hv => ?_
  rcases Lk.opt2 (Lk.at_ ps v) with e | ⟨a, b, e⟩
  · rw [outB_f e, clB_n e, Bool.and_false]
  · rw [outB_t e, clB_s e, Lk.lR_some e, Bool.and_true]
    have := o.rng e
    by_cases h : b - 1 = x
    · rw [decide_eq_true h, decide_eq_true (by omega)]
    · rw [decide_eq_false h, decide_eq_false (by omega)]
theorem opn_in {n : Nat} {ps : Lk.PL} (o : Lk.OK n ps) {x : Nat} (hx : Lk.at_ ps x = none) : opn ps (x - 1) = 0 ∨ x = 0 := by
  by_cases h0 : x = 0
  · exact .inr h0
  left
  unfold opn
  rw [List.length_eq_zero_iff, List.filter_eq_nil_iff]
  intro v _ h
  rcases Lk.opt2 (Lk.at_ ps v) with e | ⟨a, b, e⟩
  · rw [opB_n e] at h; cases h
  · rw [opB_s e] at h
    have h := of_decide_eq_true h
    have r := o.rng e
    have hv : v ≠ x := fun q => by rw [q, hx] at e; cases e
    obtain ⟨c, d, e2, _⟩ := o.within e (y := x) (by omega) (by omega)
    rw [hx] at e2
    cases e2
theorem clo_in {n : Nat} {ps : Lk.PL} (o : Lk.OK n ps) {x : Nat} (hx : Lk.at_ ps x = none) : clo ps (x + 1) = 0 := by
  unfold clo
  rw [List.length_eq_zero_iff, List.filter_eq_nil_iff]
  intro v _ h
  rcases Lk.opt2 (Lk.at_ ps v) with e | ⟨a, b, e⟩
  · rw [clB_n e] at h; cases h
  · rw [clB_s e] at h
    have h := of_decide_eq_true h
    have r := o.rng e
    have hv : v ≠ x := fun q => by rw [q, hx] at e; cases e
    obtain ⟨c, d, e2, _⟩ := o.within e (y := x) (by omega) (by omega)
    rw [hx] at e2
    cases e2
theorem word_len {n : Nat} {ps : Lk.PL} (hl : ps.length = n + 2) (hn : n ≤ 60) (x : Nat) : (wordL ps x).length ≤ 200 := by
  have h1 := opn_le ps (x - 1)
  have h2 := clo_le ps (x + 1)
  unfold wordL
  split
  · decide
  · rw [List.length_append, List.length_append, List.length_replicate, List.length_replicate]
    simp only [List.length_singleton]
    omega
theorem sum_le {l : List Nat} {b : Nat} (h : ∀ x ∈ l, x ≤ b) : l.sum ≤ l.length * b := by
  induction l with
  | nil => exact Nat.zero_le _
  | cons a l ih =>
    rw [List.sum_cons, List.length_cons, Nat.succ_mul]
    have h1 := h a (List.mem_cons_self ..)
    have h2 := ih fun x hx => h x (List.mem_cons_of_mem _ hx)
    omega
section
variable {K : PySem.W.Frag} {H : Hp} {Q : VK} {p : Addr}
theorem a_cat {a b : List Nat} (h : a.length + b.length ≤ 100000) (q : Q (.str (mkS (a ++ b))) H) : rAddS (.str (mkS a)) (.str (mkS b)) H Q :=
  ⟨_, _, rfl, rfl, by rw [mkS_len, mkS_len]; exact sz h, by rw [mkS_app]; exact q⟩
theorem a_mul {c n : Nat} (h : n ≤ 100000) (q : Q (.str (mkS (List.replicate n c))) H) : rMulS (.str (mkS [c])) (.int (n : Int)) H Q := ⟨c, n, rfl, rfl, h, q⟩
theorem a_join {a : Str} {ys : List Str} (h : H p = some (.lst (ys.map V.str))) (hz : (ys.map (·.length)).sum + ys.length * a.length ≤ 16777216) (q : Q (.str (Txt.join a ys)) H) : rJoinK K (.str a) [.ref p] H Q :=
  ⟨a, p, ys, rfl, rfl, .inl (SqL.of h), hz, q⟩
theorem a_text {n : Nat} {ps : Lk.PL} (hl : ps.length = n + 2) (hn : n ≤ 60) (h : H p = some (.lst ((List.range' 1 n).map fun x => V.str (mkS (wordL ps x))))) (q : Q (.str (textOf n ps)) H) : rJoinK K (.str (Str.ofString "")) [.ref p] H Q := by
  refine a_join (ys := (List.range' 1 n).map fun x => mkS (wordL ps x)) (by rw [h, List.map_map]; rfl) ?_ q
  have h1 : (((List.range' 1 n).map fun x => mkS (wordL ps x)).map (·.length)).sum ≤ (((List.range' 1 n).map fun x => mkS (wordL ps x)).map (·.length)).length * 200 := sum_le fun x hx => by
    rw [List.map_map] at hx
    obtain ⟨y, _, rfl⟩ := List.mem_map.mp hx
    show (mkS (wordL ps y)).length ≤ 200
    rw [mkS_len]
    exact word_len hl hn y
  rw [List.length_map, List.length_map, List.length_range'] at h1
  rw [List.length_map, List.length_range', s_empty, mkS_len]
  simp only [List.length_nil]
  omega
end
end Lw
set_option linter.all false
set_option maxRecDepth 100000
namespace Lk
/-! ### removals, one after the other -/
def Vld (n : Nat) : PL → List Nat → Prop
  | _, [] => True
  | cur, x :: xs => 1 ≤ x ∧ x ≤ n ∧ at_ cur x = none ∧ Vld n (unl cur x) xs
def runU (cur : PL) (xs : List Nat) : PL := xs.foldl unl cur
theorem unl_stays {cur : PL} {x y : Nat} (h : at_ cur y ≠ none) : at_ (unl cur x) y ≠ none := by
  unfold unl
  by_cases hx : x < cur.length
  · rw [at_set hx]
    by_cases e : y = x
    · rw [if_pos e]; simp
    · rw [if_neg e]; exact h
  · rw [List.set_eq_of_length_le (by omega)]
    exact h
theorem runU_stays {y : Nat} : ∀ {xs : List Nat} {cur : PL}, at_ cur y ≠ none → at_ (runU cur xs) y ≠ none
  | [], _, h => h
  | x :: xs, cur, h => runU_stays (xs := xs) (cur := unl cur x) (unl_stays h)
theorem runU_snoc (cur : PL) (xs : List Nat) (x : Nat) : runU cur (xs ++ [x]) = unl (runU cur xs) x := by unfold runU; rw [List.foldl_append]; rfl
theorem Vld.ok {n : Nat} : ∀ {xs : List Nat} {cur : PL}, OK n cur → Vld n cur xs → OK n (runU cur xs)
  | [], _, o, _ => o
  | x :: xs, cur, o, h => Vld.ok (xs := xs) (o.unl h.1 h.2.1 h.2.2.1) h.2.2.2
theorem Vld.split {n : Nat} : ∀ {xs ys : List Nat} {cur : PL}, Vld n cur (xs ++ ys) ↔ Vld n cur xs ∧ Vld n (runU cur xs) ys
  | [], ys, cur => ⟨fun h => ⟨trivial, h⟩, fun h => h.2⟩
  | x :: xs, ys, cur => by
    show (1 ≤ x ∧ x ≤ n ∧ at_ cur x = none ∧ Vld n (unl cur x) (xs ++ ys)) ↔ (1 ≤ x ∧ x ≤ n ∧ at_ cur x = none ∧ Vld n (unl cur x) xs) ∧ Vld n (runU (unl cur x) xs) ys
    rw [Vld.split (xs := xs) (ys := ys) (cur := unl cur x)]
    constructor
    · rintro ⟨a, b, c, d, e⟩; exact ⟨⟨a, b, c, d⟩, e⟩
    · rintro ⟨⟨a, b, c, d⟩, e⟩; exact ⟨a, b, c, d, e⟩
theorem runU_out {n : Nat} : ∀ {xs : List Nat} {cur : PL}, cur.length = n + 2 → Vld n cur xs → ∀ y ∈ xs, at_ (runU cur xs) y ≠ none
  | [], _, _, _, y, h => by cases h
  | x :: xs, cur, hl, h, y, hy => by
    rcases List.mem_cons.mp hy with e | e
    · subst e
      refine runU_stays (xs := xs) (cur := unl cur y) ?_
      unfold unl
      rw [at_set_self (by have := h.2.1; omega)]
      simp
    · exact runU_out (xs := xs) (cur := unl cur x) (by rw [unl_len]; exact hl) h.2.2.2 y e
theorem Vld.get {n : Nat} {xs : List Nat} {cur : PL} (o : OK n cur) (h : Vld n cur xs) {i x : Nat} (hi : xs[i]? = some x) :
    OK n (runU cur (xs.take i)) ∧ 1 ≤ x ∧ x ≤ n ∧ at_ (runU cur (xs.take i)) x = none ∧ x ∉ xs.take i ∧ runU cur (xs.take (i + 1)) = unl (runU cur (xs.take i)) x := by
  have e : xs = xs.take i ++ (x :: xs.drop (i + 1)) := by
    conv => lhs; rw [← List.take_append_drop i xs]
    rw [List.drop_eq_getElem_cons (List.getElem?_eq_some_iff.mp hi).1, (List.getElem?_eq_some_iff.mp hi).2]
  rw [e] at h
  obtain ⟨h1, h2, h3, h4, _⟩ := Vld.split.mp h
  refine ⟨h1.ok o, h2, h3, h4, fun hm => runU_out o.len h1 x hm h4, ?_⟩
  rw [List.take_add_one, hi]
  exact runU_snoc _ _ _
end Lk
set_option linter.all false
set_option maxRecDepth 100000
namespace Lk
variable {n : Nat} {ps : PL}
/-! ### orders of removal -/
def rngIn (ps : PL) (x y : Nat) : Prop := ∃ a b, at_ ps x = some (a, b) ∧ a < y ∧ y < b
structure Ord (n : Nat) (ps : PL) (rs : List Nat) : Prop where
  nd : rs.Nodup
  mem : ∀ x, x ∈ rs ↔ at_ ps x ≠ none
  ord : rs.Pairwise fun x y => ¬ rngIn ps x y
theorem Ord.step (o : OK n ps) : ∀ {suf pre : List Nat} {cur : PL}, Ord n ps (pre ++ suf) → OK n cur → (∀ y, y ∈ pre → at_ cur y = at_ ps y) → (∀ y, y ∉ pre → at_ cur y = none) → Vld n cur suf ∧ (∀ y, at_ (runU cur suf) y = at_ ps y)
  | [], pre, cur, h, oc, c1, c2 => ⟨trivial, fun y => by
      show at_ cur y = at_ ps y
      by_cases e : y ∈ pre
      · exact c1 y e
      · rw [c2 y e]
        rcases opt2 (at_ ps y) with q | ⟨a, b, q⟩
        · exact q.symm
        · exact absurd (by simpa using (h.mem y).mpr (by rw [q]; simp)) e⟩
  | x :: suf, pre, cur, h, oc, c1, c2 => by
    have hx : x ∈ pre ++ x :: suf := List.mem_append_right _ (List.mem_cons_self ..)
    have hout := (h.mem x).mp hx
    obtain ⟨a, b, e⟩ := ne_none hout
    have hpos := o.pos hout
    have r := o.rng e
    have nd := List.nodup_append.mp h.nd
    have hxp : x ∉ pre := fun q => nd.2.2 x q x (List.mem_cons_self ..) rfl
    have ord := List.pairwise_append.mp h.ord
    have hcx := c2 x hxp
    have inn : ∀ y, a < y → y < b → y ≠ x → at_ cur y ≠ none := fun y h1 h2 ne => by
      obtain ⟨c, d, e2, _⟩ := o.within e h1 h2
      have hy := (h.mem y).mpr (by rw [e2]; simp)
      rcases List.mem_append.mp hy with q | q
      · rw [c1 y q, e2]; simp
      · rcases List.mem_cons.mp q with q | q
        · exact absurd q ne
        · exact absurd ⟨a, b, e, h1, h2⟩ ((List.pairwise_cons.mp ord.2.1).1 y q)
    have ina : at_ cur a = none := by
      by_cases q : a ∈ pre
      · rcases opt2 (at_ ps a) with ea | ⟨c, d, ea⟩
        · rw [c1 a q]; exact ea
        · have u := o.upL e ea
          have ra := o.rng ea
          exact absurd ⟨c, d, ea, by omega, by omega⟩ (ord.2.2 a q x (List.mem_cons_self ..))
      · exact c2 a q
    have inb : at_ cur b = none := by
      by_cases q : b ∈ pre
      · rcases opt2 (at_ ps b) with ea | ⟨c, d, ea⟩
        · rw [c1 b q]; exact ea
        · have u := o.upR e ea
          have ra := o.rng ea
          exact absurd ⟨c, d, ea, by omega, by omega⟩ (ord.2.2 b q x (List.mem_cons_self ..))
      · exact c2 b q
    have eL : lowIn cur x = a := lowIn_eq oc.h0 ⟨r.1, ina, fun y h1 h2 => inn y h1 (by omega) (by omega)⟩
    have eH : highIn cur x = b := highIn_eq ⟨r.2.1, inb, fun y h1 h2 => inn y (by omega) h2 (by omega)⟩
    have oc' := oc.unl hpos.1 hpos.2 hcx
    have at' : ∀ y, at_ (Lk.unl cur x) y = if y = x then some (a, b) else at_ cur y := fun y => by
      have hl := oc.len
      unfold Lk.unl
      rw [at_set (by omega), eL, eH]
    have := Ord.step o (suf := suf) (pre := pre ++ [x]) (cur := Lk.unl cur x) (by rw [List.append_assoc]; exact h) oc' (fun y hy => ?_) fun y hy => ?_
    · exact ⟨⟨hpos.1, hpos.2, hcx, this.1⟩, this.2⟩
    · rw [at']
      by_cases q : y = x
      · rw [if_pos q, q, e]
      · rw [if_neg q]
        refine c1 y ?_
        rcases List.mem_append.mp hy with z | z
        · exact z
        · exact absurd (List.mem_singleton.mp z) q
    · rw [at', if_neg (fun q => hy (by rw [q]; simp))]
      exact c2 y fun q => hy (List.mem_append_left _ q)
theorem runU_len : ∀ (xs : List Nat) (cur : PL), (runU cur xs).length = cur.length
  | [], _ => rfl
  | x :: xs, cur => (runU_len xs (unl cur x)).trans unl_len
theorem Ord.run (o : OK n ps) {rs : List Nat} (h : Ord n ps rs) : Vld n (List.replicate (n + 2) none) rs ∧ runU (List.replicate (n + 2) none) rs = ps := by
  obtain ⟨h1, h2⟩ := Ord.step o (suf := rs) (pre := []) h (OK.whole n) (fun y q => by cases q) fun y _ => at_repl
  refine ⟨h1, ext_at ?_ fun x _ => h2 x⟩
  rw [runU_len, List.length_replicate, o.len]
theorem OK.rngWid (o : OK n ps) {x y : Nat} (h : rngIn ps x y) (ne : x ≠ y) : wid ps y < wid ps x := by
  obtain ⟨a, b, e, h1, h2⟩ := h
  obtain ⟨c, d, e2, h3, h4⟩ := o.within e h1 h2
  rw [wid_eq e, wid_eq e2]
  have r := o.rng e
  have r2 := o.rng e2
  by_cases q : c = a ∧ d = b
  · obtain ⟨rfl, rfl⟩ := q
    exact absurd (o.uniq e e2) ne
  · omega
theorem Ord.ofWid (o : OK n ps) {rs : List Nat} (nd : rs.Nodup) (mem : ∀ x, x ∈ rs ↔ at_ ps x ≠ none) (h : rs.Pairwise fun x y => wid ps x ≤ wid ps y) : Ord n ps rs := by
  refine ⟨nd, mem, ?_⟩
  have : rs.Pairwise fun x y => wid ps x ≤ wid ps y ∧ x ≠ y := h.and nd
  exact this.imp fun {x y} ⟨h1, h2⟩ q => by
    have := o.rngWid q h2
    omega
end Lk
set_option Elab.async false
set_option linter.all false
set_option maxRecDepth 100000
namespace Lk
variable {n : Nat} {ps : PL}
/-- two ranges with a node in common -/
theorem OK.lam (o : OK n ps) {u v a b c d y : Nat} (hu : at_ ps u = some (a, b)) (hv : at_ ps v = some (c, d)) (h1 : a < y) (h2 : y < b) (h3 : c < y) (h4 : y < d) : (a ≤ c ∧ d ≤ b) ∨ (c ≤ a ∧ b ≤ d) := by
  have ru := o.rng hu
  have rv := o.rng hv
  by_cases k1 : a < v ∧ v < b
  · exact .inl (o.nest hu hv k1.1 k1.2)
  · by_cases k2 : c < u ∧ u < d
    · exact .inr (o.nest hv hu k2.1 k2.2)
    · by_cases k3 : v ≤ a
      · obtain ⟨e, f, he, h5, _⟩ := o.within hu (y := d) (by omega) (by omega)
        have := o.upR hv he
        omega
      · obtain ⟨e, f, he, _, h5⟩ := o.within hu (y := c) (by omega) (by omega)
        have := o.upL hv he
        omega
/-! ### the ranges that a node lies in, the inmost first -/
def cnt (ps : PL) (y v : Nat) : Bool := match at_ ps v with
  | none => false
  | some (a, b) => decide (a < y) && decide (y < b)
theorem cnt_iff {y v : Nat} : cnt ps y v = true ↔ ∃ a b, at_ ps v = some (a, b) ∧ a < y ∧ y < b := by
  unfold cnt
  rcases opt2 (at_ ps v) with e | ⟨a, b, e⟩
  · rw [e]
    constructor
    · intro h; cases h
    · rintro ⟨a, b, h, _⟩; cases h
  · rw [e]
    constructor
    · intro h
      obtain ⟨h1, h2⟩ := Bool.and_eq_true_iff.mp h
      exact ⟨a, b, rfl, of_decide_eq_true h1, of_decide_eq_true h2⟩
    · rintro ⟨a', b', h, h1, h2⟩
      cases h
      exact Bool.and_eq_true_iff.mpr ⟨decide_eq_true h1, decide_eq_true h2⟩
def full (n : Nat) (ps : PL) (y : Nat) : List Nat := ((List.range' 1 n).filter (cnt ps y)).mergeSort (fun u v => decide (wid ps u ≤ wid ps v))
theorem full_perm (n : Nat) (ps : PL) (y : Nat) : (full n ps y).Perm ((List.range' 1 n).filter (cnt ps y)) := List.mergeSort_perm _ _
theorem OK.full_mem (o : OK n ps) {y v : Nat} : v ∈ full n ps y ↔ ∃ a b, at_ ps v = some (a, b) ∧ a < y ∧ y < b := by
  rw [(full_perm n ps y).mem_iff, List.mem_filter, cnt_iff, List.mem_range'_1]
  constructor
  · exact fun h => h.2
  · rintro ⟨a, b, e, h⟩
    have := o.pos (x := v) (by rw [e]; simp)
    exact ⟨by omega, a, b, e, h⟩
theorem full_nodup (n : Nat) (ps : PL) (y : Nat) : (full n ps y).Nodup := (full_perm n ps y).nodup_iff.mpr (List.Pairwise.filter _ (List.nodup_range' (step := 1)))
theorem OK.full_sort (o : OK n ps) {y : Nat} : (full n ps y).Pairwise fun u v => wid ps u < wid ps v := by
  have t1 : ∀ a b c : Nat, decide (wid ps a ≤ wid ps b) = true → decide (wid ps b ≤ wid ps c) = true → decide (wid ps a ≤ wid ps c) = true := fun a b c h1 h2 => decide_eq_true (Nat.le_trans (of_decide_eq_true h1) (of_decide_eq_true h2))
  have t2 : ∀ a b : Nat, (decide (wid ps a ≤ wid ps b) || decide (wid ps b ≤ wid ps a)) = true := fun a b => by
    rcases Nat.le_total (wid ps a) (wid ps b) with h | h
    · rw [decide_eq_true h]; rfl
    · rw [decide_eq_true h, Bool.or_true]
  have h1 : (full n ps y).Pairwise fun u v => decide (wid ps u ≤ wid ps v) = true := List.pairwise_mergeSort (le := fun u v => decide (wid ps u ≤ wid ps v)) t1 t2 _
  have h2 := h1.and (full_nodup n ps y)
  refine h2.imp_of_mem fun {u v} hu hv ⟨h, ne⟩ => ?_
  obtain ⟨a, b, e, k1, k2⟩ := o.full_mem.mp hu
  obtain ⟨c, d, e2, k3, k4⟩ := o.full_mem.mp hv
  have h := of_decide_eq_true h
  rw [wid_eq e, wid_eq e2] at h ⊢
  apply Nat.lt_of_le_of_ne h
  intro q
  apply ne
  rcases o.lam e e2 k1 k2 k3 k4 with z | z
  · have : a = c ∧ b = d := by omega
    obtain ⟨rfl, rfl⟩ := this
    exact o.uniq e e2
  · have : a = c ∧ b = d := by omega
    obtain ⟨rfl, rfl⟩ := this
    exact o.uniq e e2
/-- nested, the inmost first -/
theorem OK.full_nest (o : OK n ps) {y : Nat} : (full n ps y).Pairwise fun u v => lL ps v ≤ lL ps u ∧ lR ps u ≤ lR ps v := by
  refine o.full_sort.imp_of_mem fun {u v} hu hv h => ?_
  obtain ⟨a, b, e, k1, k2⟩ := o.full_mem.mp hu
  obtain ⟨c, d, e2, k3, k4⟩ := o.full_mem.mp hv
  rw [wid_eq e, wid_eq e2] at h
  rw [lL_some e, lL_some e2, lR_some e, lR_some e2]
  rcases o.lam e e2 k1 k2 k3 k4 with z | z
  · omega
  · exact z
theorem OK.full_head (o : OK n ps) {y : Nat} (hy : at_ ps y ≠ none) : ∃ r, full n ps y = y :: r := by
  obtain ⟨a, b, e⟩ := ne_none hy
  have r := o.rng e
  have hm : y ∈ full n ps y := o.full_mem.mpr ⟨a, b, e, r.1, r.2.1⟩
  cases h : full n ps y with
  | nil => rw [h] at hm; cases hm
  | cons z rest =>
    have s := o.full_sort (y := y)
    rw [h] at s hm
    rcases List.mem_cons.mp hm with q | q
    · exact ⟨rest, by rw [q]⟩
    · exfalso
      have h1 := (List.pairwise_cons.mp s).1 y q
      obtain ⟨c, d, e2, k3, k4⟩ := o.full_mem.mp (show z ∈ full n ps y by rw [h]; exact List.mem_cons_self ..)
      have h2 := o.nest e2 e k3 k4
      have r2 := o.rng e2
      rw [wid_eq e, wid_eq e2] at h1
      omega
theorem OK.full_in (o : OK n ps) {y : Nat} (hy : at_ ps y = none) : full n ps y = [] := by
  rw [List.eq_nil_iff_forall_not_mem]
  intro v hv
  obtain ⟨a, b, e, h1, h2⟩ := o.full_mem.mp hv
  obtain ⟨c, d, e2, _⟩ := o.within e h1 h2
  rw [hy] at e2
  cases e2
/-- strictly sorted lists with the same items -/
theorem sorted_ext {f : Nat → Nat} : ∀ {l m : List Nat}, l.Pairwise (fun u v => f u < f v) → m.Pairwise (fun u v => f u < f v) → (∀ x, x ∈ l ↔ x ∈ m) → l = m
  | [], [], _, _, _ => rfl
  | [], y :: m, _, _, h => by have := (h y).mpr (List.mem_cons_self ..); cases this
  | x :: l, [], _, _, h => by have := (h x).mp (List.mem_cons_self ..); cases this
  | x :: l, y :: m, h1, h2, h => by
    obtain ⟨a1, a2⟩ := List.pairwise_cons.mp h1
    obtain ⟨b1, b2⟩ := List.pairwise_cons.mp h2
    have e : x = y := by
      rcases List.mem_cons.mp ((h x).mp (List.mem_cons_self ..)) with q | q
      · exact q
      · rcases List.mem_cons.mp ((h y).mpr (List.mem_cons_self ..)) with q2 | q2
        · exact q2.symm
        · have := a1 y q2
          have := b1 x q
          omega
    subst e
    congr 1
    refine sorted_ext a2 b2 fun z => ?_
    have hz := h z
    constructor
    · intro hm
      rcases List.mem_cons.mp (hz.mp (List.mem_cons_of_mem _ hm)) with q | q
      · subst q; have := a1 z hm; omega
      · exact q
    · intro hm
      rcases List.mem_cons.mp (hz.mpr (List.mem_cons_of_mem _ hm)) with q | q
      · subst q; have := b1 z hm; omega
      · exact q
/-- a list cut where a test turns false -/
theorem cut_at {p : Nat → Bool} : ∀ {l : List Nat}, l.Pairwise (fun u v => p v = true → p u = true) → l = l.filter p ++ l.filter fun v => !p v
  | [], _ => rfl
  | x :: l, h => by
    obtain ⟨a1, a2⟩ := List.pairwise_cons.mp h
    cases hp : p x with
    | true =>
      rw [List.filter_cons, if_pos hp, List.filter_cons, if_neg (by rw [hp]; decide)]
      show x :: l = x :: (l.filter p ++ l.filter fun v => !p v)
      rw [← cut_at a2]
    | false =>
      have e1 : l.filter p = [] := List.filter_eq_nil_iff.mpr fun z hz q => by rw [a1 z hz q] at hp; cases hp
      have e2 : (l.filter fun v => !p v) = l := List.filter_eq_self.mpr fun z hz => by
        cases q : p z with
        | false => rfl
        | true => rw [a1 z hz q] at hp; cases hp
      rw [List.filter_cons, if_neg (by rw [hp]; decide), List.filter_cons, if_pos (by rw [hp]; rfl), e1, e2]
      rfl
/-! ### the reader, sign by sign -/
structure PSt where
  size : Nat
  roots : List Nat
  rem : List Nat
  bef : Nat
def foll (b : Nat) (roots : List Nat) : List Nat :=
  if b = 40 then [40, 42] else if b = 42 then [40, 41] else if b = 46 then [46, 40] else match roots with
    | [] => [46]
    | r :: _ => if r = 0 then [42] else [41]
def stepP (s : PSt) (c : Nat) : Option PSt := if c ∈ foll s.bef s.roots then
    (if c = 40 then some ⟨s.size, 0 :: s.roots, s.rem, c⟩
     else if c = 41 then (match s.roots with | [] => none | r :: rs => some ⟨s.size, rs, s.rem ++ [r], c⟩)
     else if c = 42 then (match s.roots with | [] => none | _ :: rs => some ⟨s.size + 1, (s.size + 1) :: rs, s.rem, c⟩)
     else some ⟨s.size + 1, s.roots, s.rem, c⟩)
  else none
def runP (s : PSt) (l : List Nat) : Option PSt := l.foldlM stepP s
theorem runP_app {s s' : PSt} {l m : List Nat} (h : runP s l = some s') : runP s (l ++ m) = runP s' m := by
  unfold runP at h ⊢
  rw [List.foldlM_append, h]
  rfl
theorem runP_cons {s s' : PSt} {c : Nat} {l : List Nat} (h : stepP s c = some s') : runP s (c :: l) = runP s' l := by
  unfold runP
  rw [List.foldlM_cons, h]
  rfl
theorem runP_nil (s : PSt) : runP s [] = some s := rfl
end Lk
set_option Elab.async false
set_option linter.all false
set_option maxRecDepth 100000
namespace Lw
open Lk
variable {n : Nat} {ps : PL}
def Vn (n : Nat) (ps : PL) (y : Nat) : List Nat := (full n ps y).filter fun v => decide (lL ps v + 1 = y)
def GapL (n : Nat) (ps : PL) (y : Nat) : List Nat := (full n ps y).filter fun v => !decide (lL ps v + 1 = y)
def Pn (n : Nat) (ps : PL) (y : Nat) : List Nat := (full n ps y).filter fun v => decide (lR ps v = y + 1)
def GapR (n : Nat) (ps : PL) (y : Nat) : List Nat := (full n ps y).filter fun v => !decide (lR ps v = y + 1)
def vals (z : Nat) (l : List Nat) : List Nat := l.map fun v => if v ≤ z then v else 0
theorem vals_app (z : Nat) (l m : List Nat) : vals z (l ++ m) = vals z l ++ vals z m := List.map_append
theorem cutV_ (o : OK n ps) (y : Nat) : full n ps y = Vn n ps y ++ GapL n ps y := by
  refine cut_at (o.full_nest.imp_of_mem fun {u v} hu hv h hp => ?_)
  obtain ⟨a, b, e, k1, k2⟩ := o.full_mem.mp hu
  have hp := of_decide_eq_true hp
  rw [lL_some e] at h
  rw [lL_some e]
  exact decide_eq_true (by omega)
theorem cutP_ (o : OK n ps) (y : Nat) : full n ps y = Pn n ps y ++ GapR n ps y := by
  refine cut_at (o.full_nest.imp_of_mem fun {u v} hu hv h hp => ?_)
  obtain ⟨a, b, e, k1, k2⟩ := o.full_mem.mp hu
  have hp := of_decide_eq_true hp
  rw [lR_some e] at h
  rw [lR_some e]
  exact decide_eq_true (by omega)
theorem gap (o : OK n ps) (x : Nat) : GapR n ps x = GapL n ps (x + 1) := by
  refine sorted_ext (f := wid ps) (o.full_sort.filter _) (o.full_sort.filter _) fun v => ?_
  unfold GapR GapL
  rw [List.mem_filter, List.mem_filter, o.full_mem, o.full_mem]
  constructor
  · rintro ⟨⟨a, b, e, h1, h2⟩, h3⟩
    rw [lR_some e] at h3
    have h3 : ¬ b = x + 1 := by simpa using h3
    refine ⟨⟨a, b, e, by omega, by omega⟩, ?_⟩
    rw [lL_some e]
    have : ¬ a + 1 = x + 1 := by omega
    simpa using this
  · rintro ⟨⟨a, b, e, h1, h2⟩, h3⟩
    rw [lL_some e] at h3
    have h3 : ¬ a + 1 = x + 1 := by simpa using h3
    refine ⟨⟨a, b, e, by omega, by omega⟩, ?_⟩
    rw [lR_some e]
    have : ¬ b = x + 1 := by omega
    simpa using this
theorem Vn_len (o : OK n ps) {y : Nat} (hy : 1 ≤ y) : (Vn n ps y).length = opn ps (y - 1) := by
  unfold Vn opn
  rw [((full_perm n ps y).filter _).length_eq, List.filter_filter, o.len, filt_ends (opB_n o.h0) (opB_n o.hn)]
  congr 1
  refine List.filter_congr fun v hv => ?_
  rcases opt2 (at_ ps v) with e | ⟨a, b, e⟩
  · have : cnt ps y v = false := by unfold cnt; rw [e]
    rw [this, opB_n e, Bool.and_false]
  · have hc : cnt ps y v = (decide (a < y) && decide (y < b)) := by unfold cnt; rw [e]
    have r := o.rng e
    rw [hc, opB_s e, lL_some e]
    by_cases h : a + 1 = y
    · rw [decide_eq_true h, decide_eq_true (by omega), decide_eq_true (by omega), decide_eq_true (by omega)]
      rfl
    · rw [decide_eq_false h, Bool.false_and, decide_eq_false (by omega)]
theorem Pn_len (o : OK n ps) {y : Nat} : (Pn n ps y).length = clo ps (y + 1) := by
  unfold Pn clo
  rw [((full_perm n ps y).filter _).length_eq, List.filter_filter, o.len, filt_ends (clB_n o.h0) (clB_n o.hn)]
  congr 1
  refine List.filter_congr fun v hv => ?_
  rcases opt2 (at_ ps v) with e | ⟨a, b, e⟩
  · have : cnt ps y v = false := by unfold cnt; rw [e]
    rw [this, clB_n e, Bool.and_false]
  · have hc : cnt ps y v = (decide (a < y) && decide (y < b)) := by unfold cnt; rw [e]
    have r := o.rng e
    rw [hc, clB_s e, lR_some e]
    by_cases h : b = y + 1
    · rw [decide_eq_true h, decide_eq_true (by omega), decide_eq_true (by omega)]
      rfl
    · rw [decide_eq_false h, Bool.false_and]
theorem push (sz : Nat) (rem : List Nat) : ∀ (k : Nat) (R : List Nat) (b : Nat), (k = 0 ∨ b = 40 ∨ b = 42 ∨ b = 46) → runP ⟨sz, R, rem, b⟩ (List.replicate k 40) = some ⟨sz, List.replicate k 0 ++ R, rem, if k = 0 then b else 40⟩
  | 0, R, b, _ => rfl
  | k + 1, R, b, h => by
    have hb : 40 ∈ foll b R := by
      rcases h with h | h | h | h
      · cases h
      · subst h; simp [foll]
      · subst h; simp [foll]
      · subst h; simp [foll]
    have e : stepP ⟨sz, R, rem, b⟩ 40 = some ⟨sz, 0 :: R, rem, 40⟩ := by
      unfold stepP
      rw [if_pos hb, if_pos rfl]
    have e2 : (if k = 0 then 40 else 40) = 40 := by split <;> rfl
    rw [List.replicate_succ, runP_cons e, push sz rem k (0 :: R) 40 (.inr (.inl rfl)), e2, if_neg (show ¬ k + 1 = 0 by omega), List.replicate_succ']
    simp
theorem pops (sz : Nat) (R : List Nat) : ∀ (A rem : List Nat) (b : Nat), (∀ a ∈ A, a ≠ 0) → (A = [] ∨ b = 42 ∨ b = 41) → runP ⟨sz, A ++ R, rem, b⟩ (List.replicate A.length 41) = some ⟨sz, R, rem ++ A, if A = [] then b else 41⟩
  | [], rem, b, _, _ => by
    rw [List.append_nil]
    rfl
  | a :: A, rem, b, h0, h => by
    have ha := h0 a (List.mem_cons_self ..)
    have hb : 41 ∈ foll b (a :: A ++ R) := by
      rcases h with h | h | h
      · cases h
      · subst h; simp [foll]
      · subst h; simp [foll, ha]
    have e : stepP ⟨sz, a :: A ++ R, rem, b⟩ 41 = some ⟨sz, A ++ R, rem ++ [a], 41⟩ := by
      unfold stepP
      rw [if_pos hb, if_neg (by decide), if_pos rfl]
      rfl
    rw [List.length_cons, List.replicate_succ, runP_cons e, pops sz R A (rem ++ [a]) 41 (fun x hx => h0 x (List.mem_cons_of_mem _ hx)) (.inr (.inr rfl))]
    have e2 : (if A = [] then 41 else 41) = 41 := by split <;> rfl
    rw [e2, if_neg (by simp), List.append_assoc]
    rfl
def remsN (n : Nat) (ps : PL) (x : Nat) : List Nat := (List.range' 1 x).flatMap (Pn n ps)
theorem remsN_succ (n : Nat) (ps : PL) (x : Nat) : remsN n ps (x + 1) = remsN n ps x ++ Pn n ps (x + 1) := by
  unfold remsN
  rw [List.range'_concat, List.flatMap_append, Nat.one_mul, Nat.add_comm 1 x]
  simp
def bf (n : Nat) (ps : PL) (x : Nat) : Nat := if (at_ ps x).isNone then 46 else if Pn n ps x = [] then 42 else 41
def Sx (n : Nat) (ps : PL) (x : Nat) : PSt := ⟨x, vals x (GapR n ps x), remsN n ps x, bf n ps x⟩
theorem bf_in {x : Nat} (h : at_ ps x = none) : bf n ps x = 46 := by unfold bf; rw [h]; rfl
theorem bf_out {x : Nat} (h : at_ ps x ≠ none) : bf n ps x = if Pn n ps x = [] then 42 else 41 := by
  obtain ⟨a, b, e⟩ := ne_none h
  unfold bf; rw [e]; rfl
theorem Pn_has (o : OK n ps) {x a : Nat} (h : at_ ps x = some (a, x + 1)) : Pn n ps x ≠ [] := by
  intro e
  have r := o.rng h
  have : x ∈ Pn n ps x := by
    unfold Pn
    rw [List.mem_filter, o.full_mem]
    refine ⟨⟨a, x + 1, h, by omega, by omega⟩, ?_⟩
    rw [lR_some h]
    exact decide_eq_true rfl
  rw [e] at this
  cases this
theorem word_in (o : OK n ps) {x : Nat} (hy : at_ ps (x + 1) = none) : runP (Sx n ps x) (wordL ps (x + 1)) = some (Sx n ps (x + 1)) := by
  have f1 := o.full_in hy
  have g1 : GapL n ps (x + 1) = [] := by unfold GapL; rw [f1]; rfl
  have g2 : GapR n ps (x + 1) = [] := by unfold GapR; rw [f1]; rfl
  have p2 : Pn n ps (x + 1) = [] := by unfold Pn; rw [f1]; rfl
  rw [wordL_in hy]
  have e : stepP (Sx n ps x) 46 = some (Sx n ps (x + 1)) := by
    have hm : 46 ∈ foll (bf n ps x) (vals x (GapR n ps x)) := by
      rw [gap o, g1]
      by_cases hx : at_ ps x = none
      · rw [bf_in hx]; simp [foll]
      · obtain ⟨a, b, ex⟩ := ne_none hx
        have r := o.rng ex
        have hb : b = x + 1 := by
          rcases Nat.lt_or_ge (x + 1) b with h | h
          · obtain ⟨c, d, e2, _⟩ := o.within ex (y := x + 1) (by omega) h
            rw [hy] at e2; cases e2
          · omega
        subst hb
        rw [bf_out hx, if_neg (Pn_has o ex)]
        simp [foll, vals]
    unfold stepP
    rw [if_pos (show 46 ∈ foll (Sx n ps x).bef (Sx n ps x).roots from hm), if_neg (by decide), if_neg (by decide), if_neg (by decide)]
    unfold Sx
    rw [gap o, g1, g2, remsN_succ, p2, List.append_nil, bf_in hy]
    rfl
  rw [runP_cons e]
  rfl
theorem vals_far {z : Nat} {l : List Nat} (h : ∀ v ∈ l, z < v) : vals z l = List.replicate l.length 0 := by
  induction l with
  | nil => rfl
  | cons a l ih =>
    unfold vals at ih ⊢
    rw [List.map_cons, if_neg (by have := h a (List.mem_cons_self ..); omega), List.length_cons, List.replicate_succ, ih fun v hv => h v (List.mem_cons_of_mem _ hv)]
theorem vals_near {z : Nat} {l : List Nat} (h : ∀ v ∈ l, v ≤ z) : vals z l = l := by
  unfold vals
  conv => rhs; rw [← List.map_id l]
  exact List.map_congr_left fun v hv => by rw [if_pos (h v hv)]; rfl
theorem word_out (o : OK n ps) {x : Nat} (hy : at_ ps (x + 1) ≠ none) : runP (Sx n ps x) (wordL ps (x + 1)) = some (Sx n ps (x + 1)) := by
  obtain ⟨a, b, ey⟩ := ne_none hy
  have ry := o.rng ey
  obtain ⟨rest, hf⟩ := o.full_head hy
  have nd := full_nodup n ps (x + 1)
  rw [hf] at nd
  have nd := List.nodup_cons.mp nd
  have kl : opn ps (x + 1 - 1) = (Vn n ps (x + 1)).length := (Vn_len o (by omega)).symm
  have pl : clo ps (x + 1 + 1) = (Pn n ps (x + 1)).length := (Pn_len o).symm
  rw [wordL_out ey, kl, pl, List.append_assoc]
  -- the signs before
  have hb : (Vn n ps (x + 1)).length = 0 ∨ bf n ps x = 40 ∨ bf n ps x = 42 ∨ bf n ps x = 46 := by
    by_cases hk : (Vn n ps (x + 1)).length = 0
    · exact .inl hk
    right
    by_cases hx : at_ ps x = none
    · exact .inr (.inr (bf_in hx))
    · rw [bf_out hx]
      by_cases hp : Pn n ps x = []
      · exact .inr (.inl (if_pos hp))
      · exfalso
        obtain ⟨c, d, ex⟩ := ne_none hx
        have rx := o.rng ex
        obtain ⟨w, hw⟩ := List.exists_mem_of_ne_nil _ hp
        unfold Pn at hw
        rw [List.mem_filter, o.full_mem] at hw
        obtain ⟨⟨e, f, ew, k1, k2⟩, k3⟩ := hw
        rw [lR_some ew] at k3
        have k3 := of_decide_eq_true k3
        obtain ⟨v, hv⟩ := List.exists_mem_of_ne_nil (Vn n ps (x + 1)) (fun q => hk (by rw [q]; rfl))
        unfold Vn at hv
        rw [List.mem_filter, o.full_mem] at hv
        obtain ⟨⟨g, h, ev, j1, j2⟩, j3⟩ := hv
        rw [lL_some ev] at j3
        have j3 := of_decide_eq_true j3
        have rv := o.rng ev
        have hd := (o.nest ew ex k1 k2).2
        have eg : g = x := by omega
        subst eg
        have := o.upL ev ex
        omega
  rw [show Sx n ps x = ⟨x, vals x (GapR n ps x), remsN n ps x, bf n ps x⟩ from rfl, runP_app (push x (remsN n ps x) _ _ _ hb)]
  have far : vals x (Vn n ps (x + 1)) = List.replicate (Vn n ps (x + 1)).length 0 := vals_far fun v hv => by
    unfold Vn at hv
    rw [List.mem_filter, o.full_mem] at hv
    obtain ⟨⟨g, h, ev, j1, j2⟩, j3⟩ := hv
    rw [lL_some ev] at j3
    have j3 := of_decide_eq_true j3
    have rv := o.rng ev
    omega
  have er : List.replicate (Vn n ps (x + 1)).length 0 ++ vals x (GapR n ps x) = 0 :: vals x rest := by
    rw [← far, gap o, ← vals_app, ← cutV_ o, hf]
    show (if x + 1 ≤ x then x + 1 else 0) :: _ = _
    rw [if_neg (by omega)]
    rfl
  rw [er]
  have hs : 42 ∈ foll (if (Vn n ps (x + 1)).length = 0 then bf n ps x else 40) (0 :: vals x rest) := by
    by_cases hk : (Vn n ps (x + 1)).length = 0
    · rw [if_pos hk]
      have hx : at_ ps x ≠ none := by
        intro hx
        have ha : a = x := by
          rcases Nat.lt_or_ge a x with h | h
          · obtain ⟨c, d, e2, _⟩ := o.inL ey (y := x) h (by omega)
            rw [hx] at e2; cases e2
          · omega
        subst ha
        have : a + 1 ∈ Vn n ps (a + 1) := by
          unfold Vn
          rw [List.mem_filter, o.full_mem]
          refine ⟨⟨a, b, ey, by omega, by omega⟩, ?_⟩
          rw [lL_some ey]
          exact decide_eq_true rfl
        rw [List.length_eq_zero_iff.mp hk] at this
        cases this
      have ha : a < x := by
        apply Nat.lt_of_not_le
        intro h
        have ha : a = x := by omega
        subst ha
        have : a + 1 ∈ Vn n ps (a + 1) := by
          unfold Vn
          rw [List.mem_filter, o.full_mem]
          refine ⟨⟨a, b, ey, by omega, by omega⟩, ?_⟩
          rw [lL_some ey]
          exact decide_eq_true rfl
        rw [List.length_eq_zero_iff.mp hk] at this
        cases this
      obtain ⟨c, d, ex, h1, h2⟩ := o.inL ey (y := x) ha (by omega)
      have rx := o.rng ex
      have hd : d = x + 1 := by omega
      subst hd
      rw [bf_out hx, if_neg (Pn_has o ex)]
      simp [foll]
    · rw [if_neg hk]
      simp [foll]
  have es : stepP ⟨x, 0 :: vals x rest, remsN n ps x, if (Vn n ps (x + 1)).length = 0 then bf n ps x else 40⟩ 42 = some ⟨x + 1, (x + 1) :: vals x rest, remsN n ps x, 42⟩ := by
    unfold stepP
    rw [if_pos hs, if_neg (by decide), if_neg (by decide), if_pos rfl]
  show runP _ (42 :: List.replicate (Pn n ps (x + 1)).length 41) = _
  rw [runP_cons es]
  have ev : (x + 1) :: vals x rest = Pn n ps (x + 1) ++ vals (x + 1) (GapR n ps (x + 1)) := by
    have e1 : vals x rest = vals (x + 1) rest := by
      unfold vals
      refine List.map_congr_left fun v hv => ?_
      by_cases h : v ≤ x
      · rw [if_pos h, if_pos (by omega)]
      · rw [if_neg h, if_neg (by
          intro h2
          have : v = x + 1 := by omega
          exact nd.1 (this ▸ hv))]
    have e2 : (x + 1) :: vals (x + 1) rest = vals (x + 1) (full n ps (x + 1)) := by
      rw [hf]
      show _ = (if x + 1 ≤ x + 1 then x + 1 else 0) :: _
      rw [if_pos (Nat.le_refl _)]
      rfl
    rw [e1, e2, cutP_ o, vals_app, vals_near]
    · intro v hv
      unfold Pn at hv
      rw [List.mem_filter, o.full_mem] at hv
      obtain ⟨⟨g, h, ev, j1, j2⟩, j3⟩ := hv
      rw [lR_some ev] at j3
      have j3 := of_decide_eq_true j3
      have rv := o.rng ev
      omega
  rw [ev, pops (x + 1) (vals (x + 1) (GapR n ps (x + 1))) (Pn n ps (x + 1)) (remsN n ps x) 42 (fun v hv => by
    unfold Pn at hv
    rw [List.mem_filter, o.full_mem] at hv
    obtain ⟨⟨g, h, ev, j1, j2⟩, j3⟩ := hv
    have rv := o.rng ev
    omega) (.inr (.inl rfl))]
  unfold Sx
  rw [remsN_succ, bf_out hy]
def textL (ps : PL) (x : Nat) : List Nat := ((List.range' 1 x).map (wordL ps)).flatten
theorem textL_succ (ps : PL) (x : Nat) : textL ps (x + 1) = textL ps x ++ wordL ps (x + 1) := by
  unfold textL
  rw [List.range'_concat, List.map_append, List.flatten_append, Nat.one_mul, Nat.add_comm 1 x]
  simp
theorem text_run (o : OK n ps) : ∀ x, runP ⟨0, [], [], 46⟩ (textL ps x) = some (Sx n ps x)
  | 0 => by
    show some (PSt.mk 0 [] [] 46) = some (Sx n ps 0)
    unfold Sx
    have f : full n ps 0 = [] := o.full_in o.h0
    have g : GapR n ps 0 = [] := by unfold GapR; rw [f]; rfl
    rw [g, bf_in o.h0]
    rfl
  | x + 1 => by
    rw [textL_succ, runP_app (text_run o x)]
    by_cases h : at_ ps (x + 1) = none
    · exact word_in o h
    · exact word_out o h
theorem rems_mem (o : OK n ps) {v : Nat} : v ∈ remsN n ps n ↔ at_ ps v ≠ none := by
  unfold remsN
  rw [List.mem_flatMap]
  constructor
  · rintro ⟨y, hy, hv⟩
    unfold Pn at hv
    rw [List.mem_filter, o.full_mem] at hv
    obtain ⟨⟨g, h, ev, _⟩, _⟩ := hv
    rw [ev]; simp
  · intro h
    obtain ⟨a, b, e⟩ := ne_none h
    have r := o.rng e
    refine ⟨b - 1, List.mem_range'_1.mpr ⟨by omega, by omega⟩, ?_⟩
    unfold Pn
    rw [List.mem_filter, o.full_mem]
    refine ⟨⟨a, b, e, by omega, by omega⟩, ?_⟩
    rw [lR_some e]
    exact decide_eq_true (by omega)
theorem Pn_hi (o : OK n ps) {y v : Nat} (h : v ∈ Pn n ps y) : ∃ a, at_ ps v = some (a, y + 1) := by
  unfold Pn at h
  rw [List.mem_filter, o.full_mem] at h
  obtain ⟨⟨a, b, e, _⟩, k⟩ := h
  rw [lR_some e] at k
  have k := of_decide_eq_true k
  subst k
  exact ⟨a, e⟩
theorem rems_sorted (o : OK n ps) : ∀ x, (remsN n ps x).Pairwise fun u v => u ≠ v ∧ ¬ rngIn ps u v
  | 0 => List.Pairwise.nil
  | x + 1 => by
    rw [remsN_succ]
    refine List.pairwise_append.mpr ⟨rems_sorted o x, ?_, fun u hu v hv => ?_⟩
    · have s : (Pn n ps (x + 1)).Pairwise fun u v => wid ps u < wid ps v := o.full_sort.filter _
      refine s.imp fun {u v} h => ⟨fun e => by subst e; omega, fun q => ?_⟩
      have ne : u ≠ v := fun e => by subst e; omega
      have := o.rngWid q ne
      omega
    · unfold remsN at hu
      obtain ⟨y, hy, hu⟩ := List.mem_flatMap.mp hu
      have hy := List.mem_range'_1.mp hy
      obtain ⟨a, ea⟩ := Pn_hi o hu
      obtain ⟨c, ec⟩ := Pn_hi o hv
      refine ⟨fun e => ?_, ?_⟩
      · subst e
        rw [ea] at ec
        cases ec
        omega
      · rintro ⟨a', b', e', h1, h2⟩
        rw [ea] at e'
        cases e'
        have := o.nest ea ec h1 h2
        omega
theorem rems_ord (o : OK n ps) : Ord n ps (remsN n ps n) :=
  ⟨(rems_sorted o n).imp fun h => h.1, fun v => rems_mem o, (rems_sorted o n).imp fun h => h.2⟩
theorem text_end (o : OK n ps) : Sx n ps n = ⟨n, [], remsN n ps n, bf n ps n⟩ := by
  have g : GapR n ps n = [] := by
    rw [List.eq_nil_iff_forall_not_mem]
    intro v hv
    unfold GapR at hv
    rw [List.mem_filter, o.full_mem] at hv
    obtain ⟨⟨a, b, e, h1, h2⟩, k⟩ := hv
    have r := o.rng e
    rw [lR_some e] at k
    have k : ¬ b = n + 1 := by simpa using k
    omega
  unfold Sx
  rw [g]
  rfl
end Lw
set_option Elab.async false
set_option linter.all false
set_option maxRecDepth 100000
set_option maxHeartbeats 4000000
namespace Lw
open PySem PySem.Spec PyProof.Rows L2
/-! ### comprehensions whose items are new tuples -/
def Tk (H H' : Hp) : Prop := ∀ b xs, H b = some (.tup xs) → H' b = some (.tup xs)
theorem Same.tk {H H' : Hp} (e : Same H H') : Tk H H' := fun b xs h => e b _ h
theorem Tk.trans {H H1 H2 : Hp} (a : Tk H H1) (b : Tk H1 H2) : Tk H H2 := fun c xs h => b c xs (a c xs h)
theorem Tk.upd {H : Hp} {l : Addr} {xs ys : List V} (hl : H l = some (.lst xs)) : Tk H (upd H l (.lst ys)) := fun b zs h => by
  rw [upd_ne (ne_of h hl (by intro q; cases q))]
  exact h
inductive All2 (R : Nat → V → Prop) : List Nat → List V → Prop
  | nil : All2 R [] []
  | cons {i : Nat} {v : V} {is : List Nat} {vs : List V} : R i v → All2 R is vs → All2 R (i :: is) (v :: vs)
theorem All2.len {R : Nat → V → Prop} {is : List Nat} {vs : List V} (h : All2 R is vs) : is.length = vs.length := by
  induction h with
  | nil => rfl
  | cons _ _ ih => rw [List.length_cons, List.length_cons, ih]
theorem All2.imp {R R' : Nat → V → Prop} (f : ∀ i v, R i v → R' i v) {is : List Nat} {vs : List V} (h : All2 R is vs) : All2 R' is vs := by
  induction h with
  | nil => exact .nil
  | cons h1 _ ih => exact .cons (f _ _ h1) ih
theorem All2.snoc {R : Nat → V → Prop} {i : Nat} {v : V} {is : List Nat} {vs : List V} (h : All2 R is vs) (r : R i v) : All2 R (is ++ [i]) (vs ++ [v]) := by
  induction h with
  | nil => exact .cons r .nil
  | cons h1 _ ih => exact .cons h1 ih
theorem All2.mem {R : Nat → V → Prop} {is : List Nat} {vs : List V} (h : All2 R is vs) : ∀ v ∈ vs, ∃ i ∈ is, R i v := by
  induction h with
  | nil => intro v hv; cases hv
  | cons h1 _ ih =>
    intro v hv
    rcases List.mem_cons.mp hv with e | e
    · subst e; exact ⟨_, List.mem_cons_self .., h1⟩
    · obtain ⟨i, hi, r⟩ := ih v e
      exact ⟨i, List.mem_cons_of_mem _ hi, r⟩
def evX (te : TE) (σ : L2.St) (H : Hp) (P : V → Hp → Prop) : Prop := ∀ R : VK, (∀ v H', Same H H' → P v H' → R v H') → te σ H R
def tW (H : Hp) (a : Nat) (f : Nat → Bool) (El : Nat → V → Hp → Prop) (D : Addr) (i : Nat) (H' : Hp) : Prop := H D = none ∧ Same H H' ∧ ∃ acc, H' D = some (.lst acc) ∧ All2 (fun j v => El j v H') ((List.range' a i).filter f) acc
theorem l_rT {a n j : Nat} {tt : TT} {te : TE} {vs : List Nat} {σ : L2.St} {H : Hp} {Q : VK} (f : Nat → Bool) (El : Nat → V → Hp → Prop) (hE : ∀ i v H H', Tk H H' → El i v H → El i v H') (hn : n ≤ 40000) (hw : ∀ x, wipe ((wipe σ vs).set j (some x)) vs = wipe σ vs)
    (ht : ∀ i H1, a ≤ i → i < a + n → Same H H1 → evT tt ((wipe σ vs).set j (some (.int (i : Int)))) H1 (f i)) (he : ∀ i H1, a ≤ i → i < a + n → Same H H1 → f i = true → evX te ((wipe σ vs).set j (some (.int (i : Int)))) H1 (El i))
    (q : ∀ D H' acc, H D = none → Same H H' → H' D = some (.lst acc) → All2 (fun j v => El j v H') ((List.range' a n).filter f) acc → Q (.ref D) H') : LcR (Itr (a : Int) n) (gName j) tt te vs σ Q H := fun D hD =>
  lc_range (Qd := fun H' => Q (.ref D) H') (tW H a f El D) ⟨hD, Same.new hD, [], upd_same, .nil⟩ (fun i H' hi p => by
    show wipe ((wipe σ vs).set j (some (.int ((a : Int) + (i : Int))))) vs = wipe σ vs ∧ tt ((wipe σ vs).set j (some (.int ((a : Int) + (i : Int))))) H' _
    rw [← Int.natCast_add]
    refine ⟨hw _, ?_⟩
    obtain ⟨p1, p2, acc, p3, p4⟩ := p
    refine ht (a + i) H' (by omega) (by omega) p2 _ fun H3 e3 => ?_
    cases hf : f (a + i) with
    | true =>
      refine i_true ?_
      refine he (a + i) H3 (by omega) (by omega) (p2.trans e3) hf _ fun v H4 e4 hv => ⟨acc, e4 D _ (e3 D _ p3), szl ?_, p1, Same.mut ((p2.trans e3).trans e4) p1, acc ++ [v], upd_same, ?_⟩
      · have h1 := p4.len
        have h2 := List.length_filter_le f (List.range' a i)
        rw [List.length_range'] at h2
        omega
      · rw [List.range'_concat, List.filter_append, Nat.one_mul, List.filter_cons, if_pos hf]
        have hd := e4 D _ (e3 D _ p3)
        have tk : Tk H4 (upd H4 D (.lst (acc ++ [v]))) := Tk.upd hd
        exact (p4.imp fun i v h => hE i v _ _ (((Same.tk e3).trans (Same.tk e4)).trans tk) h).snoc (hE _ _ _ _ tk hv)
    | false =>
      refine i_false ?_
      refine ⟨p1, p2.trans e3, acc, e3 D _ p3, ?_⟩
      rw [List.range'_concat, List.filter_append, Nat.one_mul, List.filter_cons, if_neg (by rw [hf]; decide)]
      simp only [List.filter_nil, List.append_nil]
      exact p4.imp fun i v h => hE i v _ _ (Same.tk e3) h) (fun H' p => by
    obtain ⟨p1, p2, acc, p3, p4⟩ := p
    exact q D H' acc p1 p2 p3 p4)
/-! ### sorted widths -/
def keyP (H : Hp) (v : V) : Int × Int := match v with
  | .ref t => match H t with
    | some (.tup [.int i, .int j]) => (i, j)
    | _ => (0, 0)
  | _ => (0, 0)
theorem keyP_eq {H : Hp} {t : Addr} {i j : Int} (h : H t = some (.tup [.int i, .int j])) : keyP H (.ref t) = (i, j) := by
  show (match H t with | some (.tup [.int i, .int j]) => (i, j) | _ => (0, 0)) = (i, j)
  rw [h]
def WEl (ps : Lk.PL) (i : Nat) (v : V) (H : Hp) : Prop := ∃ t a b, v = .ref t ∧ Lk.at_ ps i = some (a, b) ∧ H t = some (.tup [.int ((b : Int) - (a : Int)), .int (i : Int)])
theorem WEl.mono {ps : Lk.PL} (i : Nat) (v : V) (H H' : Hp) (e : Tk H H') (h : WEl ps i v H) : WEl ps i v H' := by
  obtain ⟨t, a, b, h1, h2, h3⟩ := h
  exact ⟨t, a, b, h1, h2, e _ _ h3⟩
theorem all2_nodes {ps : Lk.PL} {H : Hp} {is : List Nat} {vs : List V} (h : All2 (fun j v => WEl ps j v H) is vs) : vs.map (fun v => (keyP H v).2.toNat) = is := by
  induction h with
  | nil => rfl
  | cons h1 _ ih =>
    obtain ⟨t, a, b, rfl, _, h3⟩ := h1
    rw [List.map_cons, ih, keyP_eq h3]
    rfl
theorem sorted_ord {n : Nat} {ps : Lk.PL} (o : Lk.OK n ps) {H : Hp} {xs ys : List V} (h : All2 (fun j v => WEl ps j v H) (outsN n ps) xs) (hs : SrtO.Srtd (ltP (keyP H)) ys) (hp : ys.Perm xs) :
    Lk.Ord n ps (ys.map fun v => (keyP H v).2.toNat) := by
  have pm : (ys.map fun v => (keyP H v).2.toNat).Perm (outsN n ps) := by
    have := hp.map (fun v => (keyP H v).2.toNat)
    rw [all2_nodes h] at this
    exact this
  refine Lk.Ord.ofWid o (pm.nodup_iff.mpr (outsN_nodup n ps)) (fun x => (pm.mem_iff).trans (outsN_mem o)) ?_
  rw [List.pairwise_map]
  refine hs.imp_of_mem fun {x y} hx hy hlt => ?_
  obtain ⟨i, _, t, a, b, rfl, hi, ht⟩ := h.mem x (hp.mem_iff.mp hx)
  obtain ⟨j, _, t', a', b', rfl, hj, ht'⟩ := h.mem y (hp.mem_iff.mp hy)
  have hlt : SrtO.lexB (keyP H (.ref t')) (keyP H (.ref t)) = false := hlt
  have := SrtO.lexB_no.mp hlt
  rw [keyP_eq ht, keyP_eq ht'] at this ⊢
  dsimp only at this ⊢
  rw [Int.toNat_natCast, Int.toNat_natCast, Lk.wid_eq hi, Lk.wid_eq hj]
  have r1 := o.rng hi
  have r2 := o.rng hj
  omega
end Lw
set_option Elab.async false
set_option linter.all false
set_option maxRecDepth 100000
set_option maxHeartbeats 4000000
namespace Lw
open PySem PySem.Spec PyProof.Rows L2
/-! ### numbers as texts -/
def numS (k : Nat) : Str := Str.ofString (toString ((k : Nat) : Int))
theorem numS_mk (k : Nat) : numS k = mkS (TL.numL k) := TL.ext_tl (by
  show TL.tl (numS k) = TL.tl (mkS (TL.numL k))
  unfold numS
  rw [TL.tl_num]
  rfl)
theorem num_ok : ∀ k : Nat, k < 100 → (TL.numL k).all (· < 128) = true ∧ (TL.numL k).all Unicode.isDigit = true ∧ (TL.numL k).length ≤ 2 ∧ 0 < (TL.numL k).length ∧ (k ≠ 0 → (TL.numL k).head? ≠ some 48) := by decide +kernel
def spaced (ns : List Nat) : Str := Txt.join (Str.ofString " ") (ns.map numS)
def outsT (ns : List Nat) : Str := if ns = [] then Str.ofString "none" else spaced ns
def rsL (n : Nat) (ps : Lk.PL) : List Nat := (List.range' 0 (n + 1)).map (Lk.lR ps)
def lsL (n : Nat) (ps : Lk.PL) : List Nat := (List.range' 1 (n + 1)).map (Lk.lL ps)
def dumpOf (n : Nat) (ps : Lk.PL) : Str := spaced (rsL n ps) ++ Str.ofString " | " ++ spaced (lsL n ps) ++ Str.ofString " | " ++ outsT (outsN n ps)
theorem numS_tl (k : Nat) : TL.tl (numS k) = TL.numL k := TL.tl_num k
theorem num_len {k : Nat} (h : k < 100) : (numS k).length ≤ 2 := by rw [numS_mk, mkS_len]; exact (num_ok k h).2.2.1
theorem tl_spaced (ns : List Nat) : TL.tl (spaced ns) = TL.joinL [32] (ns.map TL.numL) := by
  unfold spaced
  rw [TL.join_eq, TL.tl_join, List.map_map]
  have e : TL.tl (Str.ofString " ") = [32] := by decide +kernel
  rw [e]
  congr 1
  exact List.map_congr_left fun k _ => numS_tl k
theorem mem_joinL {c : Nat} : ∀ {ps : List (List Nat)}, c ∈ TL.joinL [32] ps → c = 32 ∨ ∃ p ∈ ps, c ∈ p
  | [], h => by cases h
  | [p], h => .inr ⟨p, List.mem_singleton.mpr rfl, h⟩
  | p :: q :: r, h => by
    have h : c ∈ p ++ ([32] ++ TL.joinL [32] (q :: r)) := h
    rcases List.mem_append.mp h with h | h
    · exact .inr ⟨p, List.mem_cons_self .., h⟩
    · rcases List.mem_append.mp h with h | h
      · exact .inl (List.mem_singleton.mp h)
      · rcases mem_joinL h with h | ⟨z, hz, h⟩
        · exact .inl h
        · exact .inr ⟨z, List.mem_cons_of_mem _ hz, h⟩
theorem spaced_free {c : Nat} (hc : c ≠ 32) (hd : c < 48 ∨ 57 < c) (ns : List Nat) : c ∉ TL.tl (spaced ns) := by
  rw [tl_spaced]
  intro h
  rcases mem_joinL h with h | ⟨p, hp, h⟩
  · exact hc h
  · obtain ⟨k, _, rfl⟩ := List.mem_map.mp hp
    exact TL.numL_free hd h
theorem spaced_head (k : Nat) (ks : List Nat) : ∃ c r, TL.tl (spaced (k :: ks)) = c :: r ∧ 48 ≤ c ∧ c ≤ 57 := by
  rw [tl_spaced]
  have hne := TL.numL_ne k
  obtain ⟨c, r, e⟩ : ∃ c r, TL.numL k = c :: r := by
    cases h : TL.numL k with
    | nil => exact absurd h hne
    | cons c r => exact ⟨c, r, rfl⟩
  have hc := TL.numL_digits k c (by rw [e]; exact List.mem_cons_self ..)
  cases ks with
  | nil => exact ⟨c, r, e, hc.1, hc.2⟩
  | cons y ys =>
    refine ⟨c, r ++ ([32] ++ TL.joinL [32] ((y :: ys).map TL.numL)), ?_, hc.1, hc.2⟩
    show TL.numL k ++ _ = _
    rw [e]
    rfl
theorem spaced_nil : spaced [] = Str.ofString "" := by decide +kernel
theorem spaced_ne {k : Nat} {ks : List Nat} {x : Str} (h : ∀ c r, TL.tl x = c :: r → ¬ (48 ≤ c ∧ c ≤ 57)) : spaced (k :: ks) ≠ x := by
  intro e
  obtain ⟨c, r, h1, h2⟩ := spaced_head k ks
  rw [e] at h1
  exact h c r h1 h2
theorem spaced_none {k : Nat} {ks : List Nat} : spaced (k :: ks) ≠ Str.ofString "none" := spaced_ne fun c r h => by
  have e : TL.tl (Str.ofString "none") = [110, 111, 110, 101] := by decide +kernel
  rw [e] at h
  cases h
  decide
theorem spaced_empty {k : Nat} {ks : List Nat} : spaced (k :: ks) ≠ Str.ofString "" := spaced_ne fun c r h => by
  have e : TL.tl (Str.ofString "") = [] := by decide +kernel
  rw [e] at h
  cases h
theorem spaced_split {ns : List Nat} (h : ns ≠ []) : Txt.split (spaced ns) (Str.ofString " ") = ns.map numS := by
  have e : TL.tl (Str.ofString " ") = 32 :: [] := by decide +kernel
  refine TL.split_join e (by decide +kernel) (fun q => h (List.map_eq_nil_iff.mp q)) fun p hp => ?_
  obtain ⟨k, _, rfl⟩ := List.mem_map.mp hp
  rw [numS_tl]
  exact TL.numL_free (.inl (by decide))
theorem spaced_len {ns : List Nat} (h : ∀ k ∈ ns, k < 100) (hl : ns.length ≤ 100) : (spaced ns).length ≤ 1000 := by
  unfold spaced
  rw [TL.join_eq]
  refine Nat.le_trans (StrLaws.join_length_le _ _) ?_
  have h1 : ((ns.map numS).map (·.length)).sum ≤ ((ns.map numS).map (·.length)).length * 2 := sum_le fun x hx => by
    rw [List.map_map] at hx
    obtain ⟨y, hy, rfl⟩ := List.mem_map.mp hx
    exact num_len (h y hy)
  rw [List.length_map, List.length_map] at h1
  have e : (Str.ofString " ").length = 1 := by decide +kernel
  rw [List.length_map, e]
  omega
/-- no ' | ' begins in a part without | -/
theorem bar_free {p q : List Nat} (h : 124 ∉ p) (hq : q.head? ≠ some 124) : ∀ i, i < p.length → TL.pre [32, 124, 32] ((p ++ q).drop i) = false := fun i hi => by
  cases hp : TL.pre [32, 124, 32] ((p ++ q).drop i) with
  | false => rfl
  | true =>
    have e : ((p ++ q).drop i).take 3 = [32, 124, 32] := eq_of_beq hp
    have e2 : (((p ++ q).drop i).take 3)[1]? = some 124 := by rw [e]; rfl
    rw [List.getElem?_take_of_lt (by decide), List.getElem?_drop] at e2
    by_cases hl : i + 1 < p.length
    · rw [List.getElem?_append_left hl] at e2
      exact absurd (List.mem_of_getElem? e2) h
    · have e3 : i + 1 = p.length := by omega
      rw [e3, List.getElem?_append_right (Nat.le_refl _), Nat.sub_self] at e2
      rw [List.head?_eq_getElem?] at hq
      exact absurd e2 hq
theorem bar_tl : TL.tl (Str.ofString " | ") = [32, 124, 32] := by decide +kernel
theorem outsT_free (ns : List Nat) : 124 ∉ TL.tl (outsT ns) := by
  unfold outsT
  split
  · decide +kernel
  · exact spaced_free (by decide) (.inr (by decide)) ns
theorem dump_split (n : Nat) (ps : Lk.PL) : Txt.split (dumpOf n ps) (Str.ofString " | ") = [spaced (rsL n ps), spaced (lsL n ps), outsT (outsN n ps)] := by
  refine TL.map_tl_inj ?_
  rw [TL.split_spl _ _ (by rw [bar_tl]; simp) (TL.kind_ok (by decide +kernel)), bar_tl]
  have h1 := spaced_free (c := 124) (by decide) (.inr (by decide)) (rsL n ps)
  have h2 := spaced_free (c := 124) (by decide) (.inr (by decide)) (lsL n ps)
  have h3 := outsT_free (outsN n ps)
  have et : TL.tl (dumpOf n ps) = TL.tl (spaced (rsL n ps)) ++ ([32, 124, 32] ++ (TL.tl (spaced (lsL n ps)) ++ ([32, 124, 32] ++ TL.tl (outsT (outsN n ps))))) := by
    unfold dumpOf
    rw [TL.tl_append, TL.tl_append, TL.tl_append, TL.tl_append, bar_tl]
    simp only [List.append_assoc]
  rw [et, TL.spl_part (by simp) (bar_free h1 (by simp)), TL.spl_part (by simp) (bar_free h2 (by simp)), TL.spl_last]
  · rfl
  · intro i hi
    have := bar_free (q := []) h3 (by simp) i hi
    rw [List.append_nil] at this
    exact this
theorem rsL_len (n : Nat) (ps : Lk.PL) : (rsL n ps).length = n + 1 := by unfold rsL; rw [List.length_map, List.length_range']
theorem lsL_len (n : Nat) (ps : Lk.PL) : (lsL n ps).length = n + 1 := by unfold lsL; rw [List.length_map, List.length_range']
theorem rsL_get {n : Nat} {ps : Lk.PL} {i : Nat} (h : i < n + 1) : (rsL n ps)[i]? = some (Lk.lR ps i) := by
  unfold rsL
  rw [List.getElem?_map, List.getElem?_range' h]
  simp
theorem lsL_get {n : Nat} {ps : Lk.PL} {i : Nat} (h : i < n + 1) : (lsL n ps)[i]? = some (Lk.lL ps (i + 1)) := by
  unfold lsL
  rw [List.getElem?_map, List.getElem?_range' h]
  simp [Nat.add_comm]
theorem rs_bound {n : Nat} {ps : Lk.PL} (o : Lk.OK n ps) {x : Nat} (h : x ≤ n) : x < Lk.lR ps x ∧ Lk.lR ps x ≤ n + 1 := by
  by_cases h0 : x = 0
  · subst h0
    rw [Lk.lR_none o.h0]
    have R := Lk.highIn_at ps 0
    refine ⟨R.lt, ?_⟩
    apply Nat.le_of_not_lt
    intro h
    exact R.mid (n + 1) (by omega) h o.hn
  · exact ⟨(o.links (by omega) h).2.1, (o.links (by omega) h).2.2⟩
theorem ls_bound {n : Nat} {ps : Lk.PL} (o : Lk.OK n ps) {x : Nat} (h1 : 1 ≤ x) (h : x ≤ n + 1) : Lk.lL ps x < x := by
  by_cases h0 : x = n + 1
  · subst h0
    rw [Lk.lL_none o.hn]
    exact (Lk.lowIn_at o.h0 _ h1).lt
  · exact (o.links h1 (by omega)).1
theorem rsL_lt {n : Nat} {ps : Lk.PL} (o : Lk.OK n ps) (hn : n ≤ 60) : ∀ k ∈ rsL n ps, k < 100 := fun k hk => by
  obtain ⟨x, hx, rfl⟩ := List.mem_map.mp hk
  have := List.mem_range'_1.mp hx
  have := rs_bound o (x := x) (by omega)
  omega
theorem lsL_lt {n : Nat} {ps : Lk.PL} (o : Lk.OK n ps) (hn : n ≤ 60) : ∀ k ∈ lsL n ps, k < 100 := fun k hk => by
  obtain ⟨x, hx, rfl⟩ := List.mem_map.mp hk
  have := List.mem_range'_1.mp hx
  have := ls_bound o (x := x) (by omega) (by omega)
  omega
theorem outsN_lt {n : Nat} {ps : Lk.PL} (hn : n ≤ 60) : ∀ k ∈ outsN n ps, k < 100 := fun k hk => by
  obtain ⟨hx, _⟩ := List.mem_filter.mp hk
  have := List.mem_range'_1.mp hx
  omega
section
variable {K : PySem.W.Frag} {H : Hp} {Q : VK} {p : Addr}
theorem a_str {k : Nat} (h : k < 100000) (q : Q (.str (numS k)) H) : rStrI [.int (k : Int)] H Q := ⟨(k : Int), rfl, by
  have h2 : (k : Int).natAbs < 2 ^ 20 := by rw [Int.natAbs_natCast]; omega
  have h3 := PySem.Flt.log2_lt_of (by decide : 0 < 20) h2
  omega, q⟩
theorem a_intS {k : Nat} (h : k < 100) (q : Q (.int (k : Int)) H) : rIntS [.str (numS k)] H Q := by
  have h2 := num_len h
  refine ⟨numS k, (k : Int), rfl, TL.int_num (by have := (num_ok k h).2.2.1; omega), by omega, q⟩
theorem a_spaced {ns : List Nat} (h : ∀ k ∈ ns, k < 100) (hl : ns.length ≤ 100) (hp : H p = some (.lst (ns.map fun k => V.str (numS k)))) (q : Q (.str (spaced ns)) H) : rJoinK K (.str (Str.ofString " ")) [.ref p] H Q := by
  refine a_join (ys := ns.map numS) (by rw [hp, List.map_map]; rfl) ?_ q
  have h1 : ((ns.map numS).map (·.length)).sum ≤ ((ns.map numS).map (·.length)).length * 2 := sum_le fun x hx => by
    rw [List.map_map] at hx
    obtain ⟨y, hy, rfl⟩ := List.mem_map.mp hx
    exact num_len (h y hy)
  rw [List.length_map, List.length_map] at h1
  have e : (Str.ofString " ").length = 1 := by decide +kernel
  rw [List.length_map, e]
  omega
theorem a_catS {a b : Str} (h : a.length + b.length ≤ 100000) (q : Q (.str (a ++ b)) H) : rAddS (.str a) (.str b) H Q := ⟨a, b, rfl, rfl, sz h, q⟩
theorem a_split {a b : Str} {ys : List Str} (hb : (b.length == 0) = false) (h : a.length ≤ 90000) (e : Txt.split a b = ys) (q : ∀ p H', H p = none → Same H H' → H' p = some (.lst (ys.map V.str)) → Q (.ref p) H') : rSplitK (.str a) [.str b] H Q :=
  ⟨a, b, rfl, rfl, hb, sz (by omega), by
    rw [e]
    exact fun p hp => q p _ hp (Same.new hp) upd_same⟩
end
end Lw
set_option Elab.async false
set_option linter.all false
set_option maxRecDepth 100000
set_option maxHeartbeats 4000000
namespace Lw
open PySem PySem.Spec PyProof.Rows L2
def rAscii : V → List V → Hp → VK → Prop := fun x xs H Q => ∃ a, x = .str a ∧ xs = [] ∧ True ∧ Q (.bl (Txt.isascii a)) H
def rDigit : V → List V → Hp → VK → Prop := fun x xs H Q => ∃ a, x = .str a ∧ xs = [] ∧ True ∧ Q (.bl (Txt.isdigit a)) H
theorem M0_isascii {X : Cx} {o : Expr} {apos pos : Pos} {to : TE} (ho : PE X o to) (hbase : attributeBase o "isascii" X.env (eval o X.env) = eval o X.env := by rfl) (hline : (apos.endLine == pos.line) = true := by rfl) : PE X (.Call (.Attribute o "isascii" apos) [] [] pos) (tM0 rAscii to) :=
  pe_m0 F.slot_str_isascii F.type_str_isascii mt_isascii ho hbase hline
theorem M0_isdigit {X : Cx} {o : Expr} {apos pos : Pos} {to : TE} (ho : PE X o to) (hbase : attributeBase o "isdigit" X.env (eval o X.env) = eval o X.env := by rfl) (hline : (apos.endLine == pos.line) = true := by rfl) : PE X (.Call (.Attribute o "isdigit" apos) [] [] pos) (tM0 rDigit to) :=
  pe_m0 F.slot_str_isdigit F.type_str_isdigit mt_isdigit ho hbase hline
def CvR (K : PySem.W.Frag) (f : Str) (x : V) (Q : VK) (H1 : Hp) : Prop := ∃ C mc v u, x = .ref C ∧ ClX.CRead K C mc ∧ ClX.CVal K C mc f v u ∧ Q v H1
section
variable {K : PySem.W.Frag} {mg : Str → Option Value} {H : Hp} {Q : VK} {p l b : Addr} {σ : L2.St} {to ta : TE} {f : Str} {xs zs : List V}
theorem h_m0 {r : V → List V → Hp → VK → Prop} (h : to σ H fun x H1 => (∃ a, x = .str a) ∧ r x [] H1 Q) : tM0 r to σ H Q := h
theorem h_cval (h : ta σ H fun x H1 => CvR K f x Q H1) : ClX.tCVal K ta f σ H Q := h
theorem a_most (T : Tx K mg) (q : Q (.int 60) H) : CvR K "MOST" (.ref (He.ga K "Links")) Q H := by
  obtain ⟨u, hu⟩ := T.vLinks_MOST
  exact ⟨_, _, _, u, rfl, T.crLinks, hu, q⟩
theorem a_ascii {x : Str} (q : Q (.bl (Txt.isascii x)) H) : rAscii (.str x) [] H Q := ⟨x, rfl, rfl, trivial, q⟩
theorem a_digit {x : Str} (q : Q (.bl (Txt.isdigit x)) H) : rDigit (.str x) [] H Q := ⟨x, rfl, rfl, trivial, q⟩
theorem a_ixs {c : Nat} {r : List Nat} (h : r.length ≤ 1000) (q : Q (.str (mkS [c])) H) : rIxS (.str (mkS (c :: r))) (.int 0) H Q :=
  ⟨_, 0, c, rfl, rfl, by rw [mkS_len, List.length_cons]; exact sz (by omega), (atI_cast (xs := c :: r) (i := 0) (by simp) : atI (c :: r) ((0 : Nat) : Int) = some c), q⟩
theorem a_lens {x : Str} (h : x.length ≤ 100000) (q : Q (.int (x.length : Nat)) H) : rLenStr [.str x] H Q := ⟨x, rfl, sz h, q⟩
theorem a_lcat (h1 : H l = some (.lst xs)) (h2 : H b = some (.lst zs)) (hl : xs.length + zs.length ≤ 100000) (q : ∀ p H', H p = none → Same H H' → H' p = some (.lst (xs ++ zs)) → Q (.ref p) H') : rCat (.ref l) (.ref b) H Q :=
  ⟨l, b, xs, zs, rfl, rfl, h1, h2, sz hl, fun p hp => q p _ hp (Same.new hp) upd_same⟩
theorem num_ascii {k : Nat} (h : k < 100) : Txt.isascii (numS k) = true := by
  rw [numS_mk]
  show (TL.numL k).toArray.all (· < 128) = true
  rw [List.all_toArray]
  exact (num_ok k h).1
theorem num_digit {k : Nat} (h : k < 100) : Txt.isdigit (numS k) = true := by
  rw [numS_mk]
  show (decide ((mkS (TL.numL k)).length > 0) && (TL.numL k).toArray.all Unicode.isDigit) = true
  rw [List.all_toArray, (num_ok k h).2.1, mkS_len, decide_eq_true (num_ok k h).2.2.2.1]
  rfl
end
end Lw
set_option Elab.async false
set_option linter.all false
set_option maxRecDepth 100000
set_option maxHeartbeats 4000000
namespace Lw
open PySem PySem.Spec PyProof.Rows L2
theorem mk1 {c d : Nat} : mkS [c] = mkS [d] ↔ c = d := by
  constructor
  · intro h
    have h2 : [c] = [d] := congrArg TL.tl h
    exact (List.cons.inj h2).1
  · intro h; rw [h]
theorem s_f40 : Str.ofString "(*" = mkS [40, 42] := by decide +kernel
theorem s_f42 : Str.ofString "()" = mkS [40, 41] := by decide +kernel
theorem s_f46 : Str.ofString ".(" = mkS [46, 40] := by decide +kernel
def Bef (b : Nat) : Prop := b = 40 ∨ b = 41 ∨ b = 42 ∨ b = 46
theorem foll_bef {b c : Nat} {r : List Nat} (h : c ∈ Lk.foll b r) : Bef c := by
  unfold Lk.foll at h
  unfold Bef
  split at h
  · simp at h; omega
  · split at h
    · simp at h; omega
    · split at h
      · simp at h; omega
      · split at h
        · simp at h; omega
        · split at h <;> simp at h <;> omega
theorem step_inv {s s' : Lk.PSt} {c : Nat} (h : Lk.stepP s c = some s') : c ∈ Lk.foll s.bef s.roots ∧ s'.bef = c ∧
    ((c = 40 ∧ s' = ⟨s.size, 0 :: s.roots, s.rem, c⟩) ∨ (c = 41 ∧ ∃ r rs, s.roots = r :: rs ∧ s' = ⟨s.size, rs, s.rem ++ [r], c⟩) ∨ (c = 42 ∧ ∃ r rs, s.roots = r :: rs ∧ s' = ⟨s.size + 1, (s.size + 1) :: rs, s.rem, c⟩) ∨ (c = 46 ∧ s' = ⟨s.size + 1, s.roots, s.rem, c⟩)) := by
  unfold Lk.stepP at h
  split at h
  next hm =>
    have hb := foll_bef hm
    refine ⟨hm, ?_⟩
    split at h
    next e => cases h; exact ⟨rfl, .inl ⟨e, rfl⟩⟩
    next e1 =>
      split at h
      next e =>
        split at h
        next => cases h
        next r rs er => cases h; exact ⟨rfl, .inr (.inl ⟨e, r, rs, er, rfl⟩)⟩
      next e2 =>
        split at h
        next e =>
          split at h
          next => cases h
          next r rs er => cases h; exact ⟨rfl, .inr (.inr (.inl ⟨e, r, rs, er, rfl⟩))⟩
        next e3 =>
          cases h
          refine ⟨rfl, .inr (.inr (.inr ⟨?_, rfl⟩))⟩
          unfold Bef at hb
          omega
  next => cases h
theorem run_some {s s' : Lk.PSt} {l : List Nat} (h : Lk.runP s l = some s') {i c : Nat} (hi : l[i]? = some c) {t : Lk.PSt} (ht : Lk.runP s (l.take i) = some t) : ∃ t', Lk.stepP t c = some t' ∧ Lk.runP s (l.take (i + 1)) = some t' := by
  have e : l = l.take i ++ (c :: l.drop (i + 1)) := by
    conv => lhs; rw [← List.take_append_drop i l]
    rw [List.drop_eq_getElem_cons (List.getElem?_eq_some_iff.mp hi).1, (List.getElem?_eq_some_iff.mp hi).2]
  rw [e, Lk.runP_app ht] at h
  unfold Lk.runP at h
  rw [List.foldlM_cons] at h
  cases hs : Lk.stepP t c with
  | none => rw [hs] at h; cases h
  | some t' =>
    refine ⟨t', rfl, ?_⟩
    rw [List.take_add_one, hi]
    show Lk.runP s (l.take i ++ [c]) = _
    rw [Lk.runP_app ht, Lk.runP_cons hs]
    rfl
theorem text_tl (n : Nat) (ps : Lk.PL) : TL.tl (textOf n ps) = textL ps n := by
  unfold textOf textL
  rw [TL.join_eq, TL.tl_join, List.map_map, s_empty]
  show TL.joinL [] ((List.range' 1 n).map (wordL ps)) = _
  generalize (List.range' 1 n).map (wordL ps) = ws
  induction ws with
  | nil => rfl
  | cons w ws ih =>
    cases ws with
    | nil => show w = (w ++ [] : List Nat); rw [List.append_nil]
    | cons v vs =>
      show w ++ ([] ++ TL.joinL [] (v :: vs)) = w ++ (v :: vs).flatten
      rw [ih, List.nil_append]
theorem textL_len {n : Nat} {ps : Lk.PL} (hl : ps.length = n + 2) (hn : n ≤ 60) : ∀ x, (textL ps x).length ≤ x * 200
  | 0 => Nat.le_refl _
  | x + 1 => by
    rw [textL_succ, List.length_append]
    have := textL_len hl hn x
    have := word_len hl hn (x + 1)
    omega
section
variable {K : PySem.W.Frag} {H : Hp} {Q : VK} {p l : Addr} {xs ys : List V} {y v : V} {R : Hp → Prop}
theorem a_notInS {c : Nat} {w : List Nat} (q : Q (.bl (!decide (c ∈ w))) H) : rNotInS (.str (mkS [c])) (.str (mkS w)) H Q := ⟨c, mkS w, rfl, rfl, q⟩
theorem r_eqS {i j : Str} {k : Bool} (e : decide (i = j) = k) (q : Q (.bl k) H) : rEq (.str i) (.str j) H Q := r_eqs (by rw [e]; exact q)
theorem a_setlast (h : H l = some (.lst (ys ++ [y]))) (q : ∀ H', H' l = some (.lst (ys ++ [v])) → (∀ b, b ≠ l → H' b = H b) → R H') : rSetL (.ref l) (.int (-1)) v H R :=
  ⟨l, ys ++ [y], -1, ys.length, rfl, rfl, h, by
    have e1 : ¬ (0 : Int) ≤ -1 := by decide
    unfold ixN
    rw [if_neg e1, if_pos (by rw [List.length_append]; simp only [List.length_singleton]; omega)]
    have e2 : (-1 + (((ys ++ [y]).length : Nat) : Int)).toNat = ys.length := by rw [List.length_append]; simp only [List.length_singleton]; omega
    rw [e2], by
    rw [List.set_append_right _ _ (Nat.le_refl _), Nat.sub_self]
    exact q _ upd_same fun b hb => upd_ne hb⟩
end
end Lw
set_option Elab.async false
set_option linter.all false
set_option maxRecDepth 100000
set_option maxHeartbeats 4000000
namespace Lw
open PySem PySem.Calls PyProof.Rows PySem.HandSPX PySem.W PySem.Spec
structure BnTxt (P : Program) (K : Frag) (mg : Str → Option Value) (C fI cc cda : Addr) : Prop where
  gC : mg "BadNode" = some (.ref C)
  cls : ∃ nm q N bs bm sn sub ab col dd k0 k1 k2 k3 k5, K.lookup C = some (excClassObj nm q C N bs bm true sn sub ab col dd k0 k1 k2 k3 k5 "ValueError.__new__") ∧ refsVE bm = true
  sa : findIn K (.ref C) "__setattr__" = some (some (.builtin "object.__setattr__"))
  ga : findIn K (.ref C) "__getattribute__" = some (some (.builtin "BaseException.__getattribute__"))
  gg : findIn K (.ref C) "__getattr__" = some none
  noN : findIn K (.ref C) "node" = some none
  iC : findIn K (.ref C) "__init__" = some (some (.ref fI))
  tC : typeIn K (.ref fI) = some (.type "function")
  kC : keepIn K (.ref C) = true
  exC : subIn K (.ref C) (.type "BaseException") = some true
  tyC : typeIn K (.ref C) = some (.type "type")
  hdC : hasDictIn K C = true
  te : exmOne K (.ref C) (.ref C) = some true
  fn : ∃ (oc : Value) (od : Option Addr) (kV doc pm : Value) (an : Option Addr) (ct : Value) (osl : Array (Option Value)),
    K.lookup fI = some ⟨oc, od, .func (ksFn "__init__" "BadNode.__init__" (L2.defArgs bnS) (L2.defBody bnS) (L2.defScope bnS) .none kV doc pm an (.ref cda) ct cc), osl⟩ ∧ codeIn K (.ref cda) "BadNode.__init__" = true
  code : ∃ ccl cdd vs ccs file tf, K.lookup cda = some ⟨ccl, cdd, .fields vs, ccs⟩ ∧ vs[2]? = some (.str file tf) ∧ ((P.main.file : Str) == file) = true
  cell : ∃ cl cld csl, K.lookup cc = some ⟨cl, cld, .cell (some (.ref C)), csl⟩
  sup : ks_superIn K C C "__init__" = some (some (.builtin "ValueError.__init__"))
  subB : subIn K (.ref C) (.type "ValueError") = some true
  subC : mroIn K C (.ref C) = some true
  tp : nsIn K cStatics "thirdparty.any" = some none
  noS : mg "super" = none
  noT : (P.main.scope.names.lookup ("super" : Str)).isSome = false
structure InitEnd (h h' : Heap) (x C dx t1 : Addr) (v : Value) : Prop where
  keep : ∀ b o, b ≠ x → h.get? b = some o → h'.get? b = some o
  obj : h'.get? x = some { cls := .ref C, dict := some dx, data := .fields #[.ref t1, .none, .none, .none, .bool false, .none] }
  dbig : h.objs.size ≤ dx
  dne : dx ≠ x
  ns : h'.Ns1 dx (fun y => if y = "node" then some v else none)
section
variable {P : Program} {w : World} {A : Around} {E : Value → Shared → Prop} {R : Result → Shared → Prop} {s : Shared} {K : Frag} {mg : Str → Option Value} {C fI cc cda : Addr}
theorem ldX {M : Model} {s : Shared} {name : Str} {scope : Scope} {L a : Addr} {cd : Value} {cells : List (Str × Addr)} {m : Str → Option Value} {x : Str} {pos : Pos} {v : Value} {Q : Value → Shared → Prop} {A : Around} {E : Value → Shared → Prop} (hn : s.heap.Ns L m) (hv : m x = some v) (h : Q v s)
    (hk : scope.kind = .function := by rfl) (hl : (envX name scope L a cd cells).kindOf x = some .local := by rfl) (hd : (x == ("__debug__" : Str)) = false := by decide) :
    wpAny M A (eval (.Name x pos) (envX name scope L a cd cells)) Q E s := wpAny_Name (wpAny_loadName_local hk hl hn hv h) hd
theorem bn_init {mb : Str → Option Value} (T : BnTxt P K mg C fI cc cda) {x t0 : Addr} {v : Value} (X : K.In s.heap) (hlim : s.heap.NoLimit) (hg : s.heap.Ns mainGlobals mg) (hb : s.heap.Ns builtinsNs mb) (hbs : mb "super" = some (.type "super"))
    (hx : s.heap.get? x = some (excO C t0)) (hnx : K.lookup x = none) (hroom : A.depth < recursionLimit)
    (hq : ∀ h' tk dx t1, InitEnd s.heap h' x C dx t1 v → R (.ok (.ret .none)) { s with heap := h', toks := tk }) :
    codeAny (model P w) A (.call (.ref fI) ⟨[.ref x, v], []⟩) R s := by
  obtain ⟨oc, od, kV, doc, pm, an, ct, osl, ho, hcd⟩ := T.fn
  obtain ⟨nm, q, N, bs, bm, sn, sub, ab, col, dd, k0, k1, k2, k3, k5, hC, hbm⟩ := T.cls
  have hcl : clsIn K C = some { name := nm, bases := bs, mro := .ref C :: bm, ns := N, qualname := q, hasDict := true, slotNames := sn, subclasses := sub, abstract := ab, collection := col, hasDel := false } := by unfold clsIn; rw [hC] <;> rfl
  refine ks_codeAny_call_defAt (fd := ksFn "__init__" "BadNode.__init__" (L2.defArgs bnS) (L2.defBody bnS) (L2.defScope bnS) .none kV doc pm an (.ref cda) ct cc) (body := L2.defBody bnS) (binds := [("self", .ref x), ("node", v)])
    hroom (X _ _ ho) rfl hlim (codeRec_of X hcd) rfl (BindsTo.of_eq (by first | rfl | with_unfolding_all rfl)) (by show ∀ x ∈ (L2.defScope bnS).names, x.2 ≠ .cell; decide +kernel) (fun y hy => by
      rcases List.mem_cons.mp hy with e | hy
      · rw [e]; show (L2.defScope bnS).names.lookup ("self" : Str) = some NameKind.local; decide +kernel
      · rw [List.mem_singleton.mp hy]; show (L2.defScope bnS).names.lookup ("node" : Str) = some NameKind.local; decide +kernel) (fun h₁ hn k => ?_) rfl rfl rfl
  obtain ⟨hp, g, dr, tk, os⟩ := s
  dsimp only at hn k
  obtain ⟨ccl, cdd, vs, ccs, file, tf, hcode, hvs, hfile⟩ := T.code
  obtain ⟨cl, cld, csl, hcell⟩ := T.cell
  have X₁ : K.In h₁ := X.keeps k
  have hx₁ : h₁.get? x = some (excO C t0) := k _ _ hx
  have hC₁ := X₁ _ _ hC
  have I₁ : InstAt h₁ x (excO C t0) C none := ⟨hx₁, rfl, rfl, trivial⟩
  have hsel : (fun y => List.lookup y (List.reverse [(Str.ofString "self", Value.ref x), (Str.ofString "node", v)])) (Str.ofString "self") = some (.ref x) := by first | rfl | kernel_rfl
  have hnod : (fun y => List.lookup y (List.reverse [(Str.ofString "self", Value.ref x), (Str.ofString "node", v)])) (Str.ofString "node") = some v := by first | rfl | kernel_rfl
  have hL : hp.objs.size < h₁.objs.size := hn.lt
  show _root_.PySem.wpAt _ _ _ (execs (L2.defBody bnS) (ksEnv "BadNode.__init__" (L2.defScope bnS) hp.objs.size fI (.ref cda) cc)) _ _ _
  refine ks_wpAt_execs_cons (ks_wpAt_Expr_any (ks_wpAt_MethodCall (pl := ?pl) ?main ?he))
  case main =>
    refine ks_wpAt_super_base (env := ksEnv "BadNode.__init__" (L2.defScope bnS) hp.objs.size fI (.ref cda) cc) rfl rfl (by decide +kernel) rfl (X₁ _ _ ho) rfl (ar := { arg := "self", annotation := none, pos := _ }) rfl rfl (X₁ _ _ hcode) rfl hvs hfile T.noT ?_
    refine ks_loadName_global rfl rfl (loadGlobal_builtin (hg.keeps k) T.noS (hb.keeps k) hbs ⟨rfl, ?_⟩)
    refine wpAny_loadName_free rfl rfl rfl ⟨_, X₁ _ _ hcell, rfl⟩ ?_
    refine wpAny_loadName_local rfl rfl hn hsel ?_
    refine ks_wpAny_isType_cls hC₁ rfl ⟨rfl, ?_⟩
    refine ks_wpAny_call_super hC₁ rfl hx₁ rfl (fun c e => by cases e) (looks_mroIn X₁ T.subC) (fun h₂ e₂ k₂ => ?_)
    have X₂ : K.In h₂ := X₁.keeps k₂
    have I₂ : InstAt h₂ x (excO C t0) C none := ⟨k₂ _ _ hx₁, rfl, rfl, trivial⟩
    have hsup := T.sup
    unfold ks_superIn at hsup
    rw [hcl] at hsup
    refine kxs_getMethod kxs_ValueError e₂ (looks_opaque X₂ T.tp) (l₀ := .ref C :: bm) (fun A Q E s k q => wpAny_bind ((looks_clsIn X₂ hcl) A _ E s k (wpAny_pure q))) rfl X₂ hsup (I₂.type.andThen (looks_subIn X₂ T.subB)) (ks_ne X₂ I₂ hcl) (by decide) ?_
    refine kxs_callWith (i := "ValueError.__init__") (x := x) rfl (evalArgs_plain (spliced_cons (Constant_str (pos := ⟨0, 0, 0, 0⟩) (k := 0) (spliced_nil ?_))))
    have e₃ : (h₂.push (kxs_mw "ValueError.__init__" x)).get? h₂.objs.size = some (kxs_mw "ValueError.__init__" x) := Heap.get?_push_at rfl rfl
    have k₃ : ∀ b o, h₂.get? b = some o → (h₂.push (kxs_mw "ValueError.__init__" x)).get? b = some o := fun b o e => Heap.get?_push_of_some _ e
    refine ⟨e₃, ?_⟩
    generalize h₂.push (kxs_mw "ValueError.__init__" x) = h₃ at e₃ k₃ ⊢
    have k13 : ∀ b o, h₁.get? b = some o → h₃.get? b = some o := fun b o e => k₃ b o (k₂ b o e)
    refine wpAny_call (codeAny_of_tree ?_)
    show wpAny _ _ (callAny (.ref h₂.objs.size) ⟨_, []⟩) _ _ _
    simp only [callAny]
    refine wpAny_bind (wpAny_load e₃ ?_)
    simp only [kxs_mw, show (Value.type "method-wrapper" == Value.type "method" || Value.type "method-wrapper" == Value.type "builtin_function_or_method" || Value.type "method-wrapper" == Value.type "method-wrapper") = true by decide, if_true]
    refine KFB.if_so (by decide) ?_
    refine wpAny_bind (check_bound_init F.excBase_ValueError.toExcCallFacts (k13 _ _ hC₁) (k13 _ _ hx₁) rfl ?_)
    refine wpAny_bind (wpAny_pure (wpAny_pure ?_))
    refine ⟨plainId_quiet F.excBase_ValueError.init.plain _, codeAny_builtin F.excBase_ValueError.initEntry ?_⟩
    refine exc_init_tree (cls := .ref C) (t0 := t0) (dv := none) (c2 := .none) (c3 := .none) (b4 := .bool false) (k13 _ _ hx₁) (by show 1 ≤ sizeLine; rw [sizeLine_eq]; decide) (fun h₄ k₄ hx₄ _ => ?_)
    have k14 : ∀ b o, b ≠ x → h₁.get? b = some o → h₄.get? b = some o := fun b o hb e => k₄ b o hb (k13 b o e)
    have nL : hp.objs.size ≠ x := Nat.ne_of_gt (Heap.lt_size hx)
    have hn₄ : h₄.Ns hp.objs.size (fun y => List.lookup y (List.reverse [(Str.ofString "self", Value.ref x), (Str.ofString "node", v)])) := by
      obtain ⟨oL, es, ep, hL, r⟩ := hn
      exact ⟨oL, es, ep, k14 _ _ nL hL, r⟩
    have X₄ : K.In h₄ := fun a o e => k14 a o (fun z => by rw [z, hnx] at e; cases e) (X₁ a o e)
    refine wpAt_of_wpAny ?_
    show wpAny _ _ (execs _ _) _ _ _
    refine wpAny_execs_cons (plainObj_wpAny_Assign_Attribute ?_)
    refine ldX (v := v) hn₄ hnod (ldX (v := .ref x) hn₄ hsel ?_)
    refine set_plain X₄ (ox := excO C h₃.objs.size) (od := none) ⟨hx₄, rfl, rfl, trivial⟩ T.sa ?_
    refine exc_osa X₄ hx₄ hcl (show refsVE (.ref C :: bm) = true from hbm) rfl T.noN (fun h₅ tk₅ dx k₅ dn dne hx₅ hn₅ => ?_)
    show wpAny _ _ (execs _ _) _ _ _
    refine wpAny_execs_nil (hq h₅ tk₅ dx h₃.objs.size ⟨fun b o hb e => k₅ b o hb (k14 b o hb (k b o e)), hx₅, Nat.le_of_lt (Nat.lt_of_lt_of_le hn₄.lt dn), dne, hn₅⟩)
  case he => rfl
end
end Lw
set_option Elab.async false
set_option linter.all false
set_option maxRecDepth 100000
set_option maxHeartbeats 4000000
namespace Lw
open PySem PySem.Spec PySem.Calls PyProof.Rows PySem.HandSPX PySem.W
/-! isinstance of a caught error that has a dict of its own: the library's rule for one without, turned to that -/
section
variable {prog : Program} {w : World} {A : Around} {E : Value → Shared → Prop} {s : Shared} {K : Frag} {x D : Addr} {ox : Obj}
theorem findObj_dataD {C : Addr} {od : Option Obj} {name : Str} {a g : Value} (hc : (clsIn K C).isSome = true) (ha : findIn K (.ref C) name = some (some a)) (hg : specialIn K a "__get__" = some (some g)) (ht : takesIn K a = some true) : findObj K C od name = some (.bind g a) := by
  obtain ⟨cd, hc⟩ := Option.isSome_iff_exists.mp hc
  unfold findObj
  rw [hc, Option.bind_some, ha, Option.bind_some]
  simp [hg, ht]
theorem kin_classD {odx : Option Obj} {Q : Option Value → Shared → Prop} (hga : findIn K (.ref D) "__getattribute__" = some (some (.builtin "BaseException.__getattribute__"))) (hgt : findIn K (.ref D) "__getattr__" = some none) (hsub : subIn K (.ref D) (.type "BaseException") = some true)
    (hdct : hasDictIn K D = true) (ha : findIn K (.ref D) "__class__" = some (some (.builtin "object.__class__")))
    (hn : specialIn K (.builtin "object.__class__") "__get__" = some (some (.builtin "getset_descriptor.__get__"))) (htk : takesIn K (.builtin "object.__class__") = some true) (hm : mroIn K D (.type "object") = some true)
    (X : K.In s.heap) (I : InstAt s.heap x ox D odx) (h : Q (some (.ref D)) { s with toks := s.toks + 1 }) : wpAny (model prog w) A (getAttr? (.ref x) "__class__") Q E s := by
  have hf : findObj K D odx "__class__" = some (.bind (.builtin "getset_descriptor.__get__") (.builtin "object.__class__")) := findObj_dataD (by obtain ⟨cd, hc, _⟩ := any_some hdct; rw [hc]; rfl) ha hn htk
  obtain ⟨hp, g, d, t, os⟩ := s
  have L0 := I.type (M := model prog w)
  have L1 := looks_findIn (M := model prog w) X hga
  have L2 := looks_findIn (M := model prog w) X hgt
  have L3 := looks_find (M := model prog w) X I hf
  have sub : Looks (model prog w) hp (isInstance (.ref x) (.type "BaseException")) true := L0.andThen (looks_subIn X hsub)
  have hx0 : (false && onTheHeap (Value.builtin "BaseException.__getattribute__")) = false := rfl
  have hx2 : (Value.builtin "BaseException.__getattribute__" == Value.builtin "object.__getattribute__") = false := by decide +kernel
  have hx1 : (onTheHeap (Value.ref D) && Value.builtin "BaseException.__getattribute__" == Value.builtin "object.__getattribute__") = false := by rw [hx2]; rfl
  unfold getAttr? getAttrBy? getAttrBy
  refine wpAny_bind (wpAny_mkText (wpAny_bind (wpAny_attempt (wpAny_holding (wpAny_bind (L0.at (wpAny_bind (L1.at ?_))))))))
  show wpAny _ _ (if (onTheHeap (Value.ref D) && Value.builtin "BaseException.__getattribute__" == Value.builtin "object.__getattribute__") = true then _ else _) _ _ _
  rw [hx1, if_neg Bool.false_ne_true]
  unfold getAttrByItsOwn hookBefore
  refine wpAny_bind ?_
  rw [if_pos (show onTheHeap (Value.ref D) = true from rfl)]
  refine L2.at ?_
  refine wpAny_bind (wpAny_attempt (wpAny_holding ?_))
  unfold callGetattribute
  rw [hx0, if_neg Bool.false_ne_true]
  unfold boundAndCalled
  rw [PySem.F.excAttr_ValueError.ga.bind (.ref x)]
  refine wpAny_bind (wpAny_pure ?_)
  show wpAny _ _ (call (.builtin "BaseException.__getattribute__") [.ref x, .str "__class__" t]) _ _ _
  refine wpAny_call (codeAny_call_builtin PySem.F.excAttr_ValueError.ga.plain PySem.F.entry_bexc_ga ?_)
  refine @check_slot (model prog w) _ _ ⟨hp, g, d, t + 1, os⟩ "BaseException.__getattribute__" "BaseException" "__getattribute__" (.ref x) [.str "__class__" t] [] _ (by decide +kernel) (by decide +kernel) sub (PySem.F.args_bexc_ga (.ref x) (.str "__class__" t)) ?_
  unfold Builtin.«object.__getattribute__»
  refine wpAny_bind (wpAny_of_eq (a := ((Value.ref x : Value), [Value.str "__class__" t])) (by first | rfl | (simp only [slotArgs]; rfl)) ?_)
  refine wpAny_bind (wpAny_pure (wpAny_bind (L0.at (wpAny_bind (L3.at ?_)))))
  show wpAny _ _ (holding [Value.builtin "object.__class__"] (call (.builtin "getset_descriptor.__get__") [.builtin "object.__class__", .ref x, .ref D]) >>= ret) _ _ _
  refine wpAny_bind (wpAny_holding (wpAny_call (class_get (s := ⟨hp, g, d, t + 1, os⟩) (ox := ox) (od := odx) X I hm ?_)))
  refine wpAny_pure ?_
  show wpAny _ _ (handedOut (.ref D)) _ _ _
  rw [handedOut_of (v := .ref D) rfl]
  first
    | exact wpAny_pure (wpAny_pure h)
    | exact wpAny_pure h
    | exact wpAny_pure (wpAny_bind (wpAny_pure (wpAny_pure h)))
theorem kitx_excD {odx : Option Obj} (hga : findIn K (.ref D) "__getattribute__" = some (some (.builtin "BaseException.__getattribute__"))) (hgt : findIn K (.ref D) "__getattr__" = some none) (hsub : subIn K (.ref D) (.type "BaseException") = some true) (hdct : hasDictIn K D = true) (ha : findIn K (.ref D) "__class__" = some (some (.builtin "object.__class__")))
    (hn : specialIn K (.builtin "object.__class__") "__get__" = some (some (.builtin "getset_descriptor.__get__"))) (htk : takesIn K (.builtin "object.__class__") = some true) (hm : mroIn K D (.type "object") = some true) :
    KitX K (.ref x) (.ref D) (fun h => InstAt h x ox D odx) where
  ty := fun _ _ _ I => I.type
  it := fun _ _ X _ => by
    obtain ⟨cdD, hcD, _⟩ := any_some hdct
    unfold clsIn at hcD
    split at hcD
    · rename_i c' d' cd' sl' ho
      intro A' Q' E' s' k q
      unfold isType loadHead
      exact wpAny_bind (wpAny_loadPart (k _ _ (X _ _ ho)) (wpAny_pure q))
    · cases hcD
  ne := fun h tp dd its n sl X htp => by
    obtain ⟨cdD, hcD, _⟩ := any_some hdct
    refine Bool.eq_false_iff.mpr fun q => ?_
    have e : D = tp := Value.ref.inj (beq_iff_eq.mp q)
    subst e
    unfold clsIn at hcD
    split at hcD
    · rename_i c' d' cd' sl' ho
      have z := (X _ _ ho).symm.trans htp
      cases z
    · cases hcD
  ca := fun X I k => kin_classD hga hgt hsub hdct ha hn htk hm X I k
end
/-- a made BadNode -/
structure OwnMade (h h' : Heap) (e C d : Addr) (v : Value) : Prop where
  keep : ∀ b o, h.get? b = some o → h'.get? b = some o
  new : h.objs.size ≤ e
  obj : ∃ oe vs, h'.get? e = some oe ∧ oe.cls = .ref C ∧ oe.dict = some d ∧ oe.data = .fields vs ∧ vs[1]? = some .none
  dbig : h.objs.size ≤ d
  dne : d ≠ e
  ns : h'.Ns1 d (fun y => if y = "node" then some v else none)
section
variable {P : Program} {w : World} {A : Around} {R : Result → Shared → Prop} {s : Shared} {K : Frag} {mg mb : Str → Option Value} {C fI cc cda : Addr}
theorem bn_made (T : BnTxt P K mg C fI cc cda) {v : Value} (X : K.In s.heap) (hlim : s.heap.NoLimit) (hg : s.heap.Ns mainGlobals mg) (hb : s.heap.Ns builtinsNs mb) (hbs : mb "super" = some (.type "super")) (hroom : A.depth + 1 < recursionLimit)
    (hq : ∀ h' tk e d, OwnMade s.heap h' e C d v → R (.ok (.ret (.ref e))) { s with heap := h', toks := tk }) :
    codeAny (model P w) A (.call (.ref C) ⟨[v], []⟩) R s := by
  obtain ⟨nm, q, N, bs, bm, sn, sub, ab, col, dd, k0, k1, k2, k3, k5, hC, hbm⟩ := T.cls
  obtain ⟨hp, g, dr, tk, os⟩ := s
  have k : ∀ b o, hp.get? b = some o → ((hp.push (kdv_tup [v])).push (excO C hp.objs.size)).get? b = some o := fun b o e => Heap.get?_push_of_some _ (Heap.get?_push_of_some _ e)
  have hget : ((hp.push (kdv_tup [v])).push (excO C hp.objs.size)).get? (hp.objs.size + 1) = some (excO C hp.objs.size) := by heap_get
  have hnx : K.lookup (hp.objs.size + 1) = none := by
    cases e : K.lookup (hp.objs.size + 1) with
    | none => rfl
    | some o =>
      have z : hp.get? (hp.objs.size + 1) = some o := X _ _ e
      exact absurd (Nat.lt_of_succ_lt (Heap.lt_size z)) (Nat.lt_irrefl _)
  refine call_own F.excBase_ValueError (fun X => refsVE_contains X bm hbm) (X _ _ hC) (looks_findIn X T.iC) (fun self => bind_fn X self T.tC) (by show 1 ≤ sizeLine; rw [sizeLine_eq]; decide) ?_
  refine bn_init (s := ⟨(hp.push (kdv_tup [v])).push (excO C hp.objs.size), g, dr, tk, os⟩) T (X.keeps k) (hlim.keeps k) (hg.keeps k) (hb.keeps k) hbs hget hnx ?_ fun h' tk' dx t1 ⟨k', hx, dn, dne, hns⟩ => ?_
  · show A.depth + 1 < recursionLimit
    exact hroom
  · have old : ∀ b o, hp.get? b = some o → h'.get? b = some o := fun b o e => k' b o (Nat.ne_of_lt (Nat.lt_succ_of_lt (Heap.lt_size e))) (k b o e)
    have z : hp.objs.size + 1 + 1 ≤ dx := by
      first
        | (simpa only [Heap.size_push] using dn)
        | exact dn
        | (have q := dn; rw [Heap.size_push, Heap.size_push] at q; exact q)
    exact ⟨rfl, hq h' tk' (hp.objs.size + 1) dx ⟨old, Nat.le_succ _, ⟨_, _, hx, rfl, rfl, rfl, rfl⟩, Nat.le_trans (Nat.le_trans (Nat.le_succ _) (Nat.le_succ _)) z, dne, hns⟩⟩
end
end Lw
namespace Lw
open PySem PySem.Spec PyProof.Rows L2
theorem relO_node {v : V} {v' : Value} (r : RelV v v') (f : Str) : RelO (List.lookup f [(("node" : Str), v)]) (if f = "node" then some v' else none) := by
  by_cases hw : f = "node"
  · subst hw
    rw [if_pos rfl]
    have q : List.lookup ("node" : Str) [(("node" : Str), v)] = some v := by simp [List.lookup]
    rw [q]
    exact r
  · rw [if_neg hw]
    have qw : (f == ("node" : Str)) = false := by simpa using hw
    have q2 : List.lookup f [(("node" : Str), v)] = none := by simp [List.lookup, qw]
    rw [q2]
    trivial
/-- what the top has written of the errors -/
structure Bx (P : Program) (K : PySem.W.Frag) (mg : Str → Option Value) : Prop where
  txt : ∃ fI cc cda, BnTxt P K mg (He.ga K "BadNode") fI cc cda
  exc : ExcC K (He.ga K "BadNode")
  g_BadNode : mg "BadNode" = some (.ref (He.ga K "BadNode"))
  g_LogError : mg "LogError" = some (.ref (He.ga K "LogError"))
  g_LinkError : mg "LinkError" = some (.ref (He.ga K "LinkError"))
  noLog : PySem.W.kitOne K (.ref (He.ga K "BadNode")) (.ref (He.ga K "LogError")) = some false
  isLink : PySem.W.kitOne K (.ref (He.ga K "BadNode")) (.ref (He.ga K "LinkError")) = some true
  clF : PySem.W.findIn K (.ref (He.ga K "Forest")) "__class__" = some (some (.builtin "object.__class__"))
  spF : PySem.W.specialIn K (.builtin "object.__class__") "__get__" = some (some (.builtin "getset_descriptor.__get__"))
  tkF : PySem.W.takesIn K (.builtin "object.__class__") = some true
  mrF : PySem.W.mroIn K (He.ga K "Forest") (.type "object") = some true
  isF : PySem.W.kitOne K (.ref (He.ga K "Forest")) (.ref (He.ga K "Forest")) = some true
theorem boot_super : bootBuiltins "super" = some (.type "super") := by first | exact PyProof.Rows.Boot.«super» | decide +kernel
section
variable {X : Cx}
/-- BadNode(e) -/
def tMkBn (C : Addr) (ta : TA) : L2.St → Hp → XK → Prop := fun σ H Q => ta σ H fun vs H1 => ∃ v, vs = [v] ∧ ∀ d, H1 d = none → Q (.ref C) (some d) (upd H1 d (.xd [(("node" : Str), v)]))
theorem pmk_bn {C : Addr} {a : Expr} {ta : TA} {p pos : Pos} {k : Nat} (T : ∃ fI cc cda, BnTxt X.prog X.K X.mg C fI cc cda) (hr : Room k X.A) (ha : PA X [a] ta) (hg : Gl X "BadNode" := by rfl)
    (he : starEach (a :: []) X.env = (false, eval a X.env) :: starEach [] X.env := by rfl) (hpl : (backTo pos (starEach [] X.env)).any (·.1) = false := by rfl) :
    PMk X (.Call (.Name "BadNode" p) [a] [] pos) (tMkBn C ta) := by
  intro pins s σ H Q I h
  obtain ⟨fI, cc, cda, T⟩ := T
  refine wpAny_Call_Name_kw (ld_glob I hg T.gC ?_)
  refine PySem.W.callWith_K (h₀ := X.base) I.ok.mod.kin T.kC (thn (ha.run pos pins s σ H _ I h) fun us s1 hh => ?_) he hpl
  obtain ⟨vs, H1, I1, r1, v, ev, q1⟩ := hh
  subst ev
  refine ⟨I1.kIn, ?_⟩
  cases r1 with
  | cons rv rn =>
    rename_i v' us'
    cases rn
    show wpAny _ _ (call (.ref C) [v']) _ _ _
    have hlim := I1.nolimit
    obtain ⟨mb, b1, b2⟩ := I1.mod.blt
    have gg := I1.mod.glob.keeps I1.bk
    have bb := b1.keeps I1.bk
    obtain ⟨hp, g, dr, tk, os⟩ := s1
    refine wpAny_call (bn_made T I1.kIn hlim gg bb ((b2 "super" (by decide)).trans boot_super) (by have := hr.dp; omega) fun h' tk' e d M => ?_)
    show MkP X pins σ Q (.ref e) ⟨h', g, dr, tk', os⟩
    obtain ⟨oe, fv, hoe, hc, hd, hdat, h1⟩ := M.obj
    have hns := M.ns
    obtain ⟨G', g1, g2⟩ := restrict h' fun b => decide (b ≠ e)
    have gk : ∀ b, b ≠ e → G'.get? b = h'.get? b := fun b hb => g1 b (decide_eq_true hb)
    have ge : G'.get? e = none := g2 e (by simp)
    have old : ∀ b o, hp.get? b = some o → G'.get? b = some o := fun b o q => (gk b (Nat.ne_of_lt (Nat.lt_of_lt_of_le (Heap.lt_size q) M.new))).trans (M.keep b o q)
    have ob : ObjOk X.prog X.w (upd H1 d (.xd [(("node" : Str), v)])) G' d (.xd [(("node" : Str), v)]) :=
      ⟨_, hns.at (fun o q => (gk d M.dne).trans q), fun f => relO_node rv f⟩
    have J : Inv X pins σ (upd H1 d (.xd [(("node" : Str), v)])) ⟨G', g, dr, tk', os⟩ := I1.laid (t' := tk') old M.dbig ob
    refine ⟨e, oe, fv, ⟨G', g, dr, tk', os⟩, _, .ref C, some d, rfl, J, fun b o q => ?_, ge, hoe, ⟨hc, hd⟩, hdat, h1, ?_, rfl, I1.bare, raises_own T.exC T.tyC, q1 d (I1.hok.fresh M.dbig)⟩
    · by_cases hb : b = e
      · have q' : G'.get? b = some o := q
        rw [hb, ge] at q'; cases q'
      · exact (gk b hb).symm.trans q
    · rw [upd_ne (Ne.symm M.dne)]
      exact I1.hok.fresh M.new
/-- raise BadNode(e) -/
def tRaiseBn (C : Addr) (W : WX) (ta : TA) : TS := fun _ σ H => tMkBn C ta σ H fun cls d H' => W cls d σ H'
theorem ps_raiseBn {C : Addr} {a : Expr} {ta : TA} {W : WX} {p pos pos2 : Pos} {k : Nat} (hc : X.calm = true) (T : ∃ fI cc cda, BnTxt X.prog X.K X.mg C fI cc cda) (hr : Room k X.A) (tk : Takes X W) (ha : PA X [a] ta) (hg : Gl X "BadNode" := by rfl)
    (he : starEach (a :: []) X.env = (false, eval a X.env) :: starEach [] X.env := by rfl) (hpl : (backTo pos (starEach [] X.env)).any (·.1) = false := by rfl) :
    PS X (.Raise (some (.Call (.Name "BadNode" p) [a] [] pos)) none pos2) (tRaiseBn C W ta) := ps_raise hc tk (pmk_bn T hr ha hg he hpl)
/-- e.node, e the exception that the suite holds -/
def tNodeX (C : Addr) (a : Addr) (cls : Value) (d : Option Addr) (te : TE) : TE := fun σ H Q => te σ H fun x H1 => x = .ref a ∧ cls = .ref C ∧ ∃ (dd : Addr) (v : V), d = some dd ∧ H1 dd = some (.xd [(("node" : Str), v)]) ∧ Q v H1
theorem pe_nodeX {C : Addr} {a : Addr} {oe : Obj} {cls : Value} {d : Option Addr} {pn : List (Addr × Obj)} {e : Expr} {te : TE} {pos : Pos} (T : ∃ fI cc cda, BnTxt X.prog X.K X.mg C fI cc cda) (hz : Zc cls d oe) (hf : ∃ vs, oe.data = .fields vs) (he : PE (X.suite a ((a, oe) :: pn)) e te)
    (hb : attributeBase e "node" X.env (eval e X.env) = eval e X.env := by rfl) :
    PE (X.suite a ((a, oe) :: pn)) (.Attribute e "node" pos) (tNodeX C a cls d te) := by
  refine ⟨fun pins s σ H Q I h => ?_⟩
  obtain ⟨fI, cc, cda, T⟩ := T
  refine attr_of hb (thn (he.run pins s σ H _ I h) fun u s1 hh => ?_)
  obtain ⟨x, H1, I1, rx, ex, ec, dd, v, ed, ea, q⟩ := hh
  subst ex
  obtain rfl : u = Value.ref a := rx
  subst ec
  subst ed
  obtain ⟨ha, _⟩ := I1.pin (a, oe) (List.mem_append_left _ List.mem_cons_self)
  obtain ⟨vs, hd⟩ := hf
  have hx : ObjOk X.prog X.w H1 s1.heap dd (.xd [(("node" : Str), v)]) := I1.hok dd _ ea
  obtain ⟨mA, hns, hr⟩ := hx
  obtain ⟨od, ho, hl⟩ := lookIn_ns hns
  have l : List.lookup ("node" : Str) [(("node" : Str), v)] = some v := by simp [List.lookup]
  obtain ⟨u, hu, ru⟩ := RelO.some_of (v := v) (o := mA "node") (by rw [← l]; exact hr "node")
  have J : PySem.W.InstAt s1.heap a oe C (some od) := ⟨ha, hz.1, by unfold PySem.W.notCls; rw [hd] <;> rfl, by rw [hz.2]; exact ho⟩
  exact HandSPX.exc_get I1.kIn J T.ga T.gg T.exC (PySem.W.findObj_own T.hdC T.noN rfl (by rw [hl, hu])) (handed_of ru) ⟨v, H1, I1.tok _, ru, q⟩
/-- isinstance(e, c), e the exception that the suite holds, with a dict of its own -/
def rIsD (K : PySem.W.Frag) (C a : Addr) (cls : Value) (d : Option Addr) : List V → Hp → VK → Prop := fun xs H Q => ∃ (c : V) (cv : Value) (b : Bool), xs = [.ref a, c] ∧ (∀ u, RelV c u → u = cv) ∧ cls = .ref C ∧ (∃ dd fs, d = some dd ∧ H dd = some (.xd fs)) ∧ PySem.W.kitOne K (.ref C) cv = some b ∧ Q (.bl b) H
theorem call_isD {a C : Addr} {oe : Obj} {cls : Value} {d : Option Addr} {pn : List (Addr × Obj)} (E : ExcC X.K C) (hz : Zc cls d oe) (hf : ∃ vs, oe.data = .fields vs) : CallR (X.suite a ((a, oe) :: pn)) (.builtin "isinstance") (rIsD X.K C a cls d) := by
  intro pins s σ H xs us Q I r h
  obtain ⟨c, cv, b, rfl, hcv, ec, ⟨dd, fs, ed, hdd⟩, e, q⟩ := h
  subst ec
  subst ed
  cases r with
  | cons rx rr =>
    cases rr with
    | cons rt rr =>
      cases rr
      cases rx
      have ec := hcv _ rt
      subst ec
      obtain ⟨hget, _⟩ := I.pin (a, oe) (List.mem_append.mpr (.inl List.mem_cons_self))
      obtain ⟨vs, hv⟩ := hf
      have hx : ObjOk X.prog X.w H s.heap dd (.xd fs) := I.hok dd _ hdd
      obtain ⟨mA, hns, hr⟩ := hx
      obtain ⟨od, ho, hl⟩ := lookIn_ns hns
      have J : PySem.W.InstAt s.heap a oe C (some od) := ⟨hget, hz.1, by unfold PySem.W.notCls; rw [hv] <;> rfl, by rw [hz.2]; exact ho⟩
      exact PySem.W.kia_one (kitx_excD E.hg E.hk E.hs E.hd E.ha E.hn E.ht E.hm) I.kIn J e (fun z => nomatch z) fun tk => ⟨.bl b, H, I.kept (t' := tk) fun _ _ z => z, rfl, q⟩
/-- o.m(e, ..) under the wishes of a try -/
def tMS (C : Addr) (m : Str) (sp : Sp) (E : L2.St → XK) (ta : TE) (t : TA) : TE := fun σ H Q => ta σ H fun x H1 => ∃ a dx fs, x = .ref a ∧ H1 a = some (.ins C dx fs) ∧ fs.lookup m = none ∧ t σ H1 fun vs H2 => sp (.ref a :: vs) H2 Q (E σ)
theorem pe_mS {CX : CXT} {k : Nat} {f C : Addr} {sp : Sp} {E : L2.St → XK} {m : Str} {pos apos : Pos} {e o : Expr} {es : List Expr} {ta : TE} {t : TA} {pl : Sem Bool} (he : PE X o ta) (c : Cls X.K C) (hm : Meth X.K C m f) (F : FnR X.prog X.w X.K X.mg X.base CX k f sp) (hr : Room k X.A) (hx : ∀ σ, PassesAt CX X σ (E σ)) (ha : PA X (e :: es) t)
    (hst : starEach (e :: es) X.env = (false, eval e X.env) :: starEach es X.env := by rfl) (hpl : (backTo pos (starEach es X.env)).any (·.1) = false := by rfl)
    (ht : eval (.Call (.Attribute o m apos) (e :: es) [] pos) X.env = (do
      let ov ← eval o X.env
      standAt apos.atName
      let (f, first) ← holding [ov] (getMethod ov m pl)
      callWith pos f first (backTo pos (starEach (e :: es) X.env)) (backToKw pos (keywordEach [] X.env))) := by rfl) :
    PE X (.Call (.Attribute o m apos) (e :: es) [] pos) (tMS C m sp E ta t) := by
  refine ⟨fun pins s σ H Q I h => ?_⟩
  refine PySem.W.methodCall_KW (pl := pl) (thn (he.run pins s σ H _ I h) fun u s1 ⟨x, H1, I1, rx, a, dx, fs, ex, ea, l, q⟩ => ?_) ht
  subst ex
  obtain rfl : u = Value.ref a := rx
  refine getmeth_ok I1 ea c hm l ?_
  refine PySem.W.callWith_K (first := [.ref a]) (h₀ := X.base) I.ok.mod.kin hm.kp (thn (ha.run pos pins s1 σ H1 _ I1 q) fun us s2 ⟨vs, H2, I2, r, q2⟩ => ⟨I2.kIn, ?_⟩) hst hpl
  refine wpAny_call (codeAny_mono (F X.A X.stack s2 H2 (.ref a :: us) (.ref a :: vs) Q (E σ) hr I2.env0 (.cons rfl r) q2) fun r s' hq => ?_)
  cases r with
  | error e => exact hx σ pins H2 s2 e s' I2 hq
  | ok fl =>
    cases fl with
    | ret u => exact I2.after hq
    | next => exact False.elim hq
    | brk => exact False.elim hq
    | cont => exact False.elim hq
end
end Lw
set_option Elab.async false
set_option linter.all false
set_option maxRecDepth 100000
set_option maxHeartbeats 4000000
namespace Lw
open PySem PySem.Spec PyProof.Rows L2
theorem passX {P : Program} {w : World} {K : PySem.W.Frag} {mg : Str → Option Value} {base : Heap} {N : List Str} {qual : Str} {sc : Scope} {f : Addr} {cdv : Value} {A : Around} {outer : List Env} {s : Shared} {H : Hp} {E : XK} :
    Passes (L2.CX P w) (cxOf (L2.CX P w) P w K mg base N qual sc f cdv A outer s H E) E := passes_call (takes_of rfl rfl rfl rfl) (fun _ _ _ _ h => h)
/-- what is let out: a BadNode with the node -/
def BadE (K : PySem.W.Frag) (z : Int) (H : Hp) (E : XK) : Prop := ∀ d, H d = none → E (.ref (He.ga K "BadNode")) (some d) (upd H d (.xd [(("node" : Str), .int z)]))
theorem h_raiseBn {C : Addr} {W : WX} {ta : TA} {D : Ends} {σ : L2.St} {H : Hp} (h : ta σ H fun vs H1 => ∃ v, vs = [v] ∧ ∀ d, H1 d = none → W (.ref C) (some d) σ (upd H1 d (.xd [(("node" : Str), v)]))) : tRaiseBn C W ta D σ H := h
theorem h_mS {C : Addr} {m : Str} {sp : Sp} {E : L2.St → XK} {ta : TE} {t : TA} {σ : L2.St} {H : Hp} {Q : VK} (h : ta σ H fun x H1 => MR C m x (fun a => t σ H1 fun vs H2 => sp (.ref a :: vs) H2 Q (E σ)) H1) : tMS C m sp E ta t σ H Q := by
  unfold tMS
  unfold MR at h
  exact h
def NdR (C : Addr) (a : Addr) (cls : Value) (d : Option Addr) (x : V) (Q : VK) (H1 : Hp) : Prop := x = .ref a ∧ cls = .ref C ∧ ∃ (dd : Addr) (v : V), d = some dd ∧ H1 dd = some (.xd [(("node" : Str), v)]) ∧ Q v H1
theorem h_nodeX {C a : Addr} {cls : Value} {d : Option Addr} {te : TE} {σ : L2.St} {H : Hp} {Q : VK} (h : te σ H fun x H1 => NdR C a cls d x Q H1) : tNodeX C a cls d te σ H Q := h
theorem a_node {C a d : Addr} {v : V} {Q : VK} {H : Hp} (h : H d = some (.xd [(("node" : Str), v)])) (q : Q v H) : NdR C a (.ref C) (some d) (.ref a) Q H := ⟨rfl, rfl, d, v, rfl, h, q⟩
theorem a_isD {K : PySem.W.Frag} {C a d X : Addr} {fs : List (Str × V)} {b : Bool} {Q : VK} {H : Hp} (h : H d = some (.xd fs)) (k : PySem.W.kitOne K (.ref C) (.ref X) = some b) (q : Q (.bl b) H) : rIsD K C a (.ref C) (some d) [.ref a, .ref X] H Q :=
  ⟨.ref X, .ref X, b, rfl, fun u r => r, rfl, ⟨d, fs, rfl, h⟩, k, q⟩
theorem a_WE {K : PySem.W.Frag} {C : Addr} {i : Nat} {ts : Addr → Value → Option Addr → TS} {Wout : WX} {D : Ends} {σ : L2.St} {H : Hp} {d : Option Addr} (te : PySem.W.exmOne K (.ref C) (.ref C) = some true)
    (h : ∀ a, H a = none → ts a (.ref C) d { nx := fun σ' H' => D.nx (σ'.set i none) H', rt := D.rt, bk := fun σ' H' => D.bk (σ'.set i none) H', ct := fun σ' H' => D.ct (σ'.set i none) H' } (σ.set i (some (.ref a))) H) : WE (wAs K (.ref C) i ts Wout D) σ (.ref C) d H :=
  ⟨true, te, fun _ => h, fun e => by cases e⟩
end Lw
set_option Elab.async false
set_option linter.all false
set_option maxRecDepth 100000
set_option maxHeartbeats 4000000
namespace Lw
open PySem PySem.Spec PyProof.Rows L2
local macro_rules | `(tactic| walk_at "h") => `(tactic| first | assumption | (refine (by assumption : Same _ _) _ _ ?_; walk_at "h"))
local macro_rules | `(tactic| walk_at "g1") => `(tactic| first
  | with_reducible refine g_seq ?_ | with_reducible refine g_asg ?_ | with_reducible refine g_name ?_ | with_reducible refine g_drop ?_ | with_reducible refine g_ret ?_ | with_reducible refine g_retN ?_
  | with_reducible refine g_next ?_ | with_reducible refine g_brk ?_ | with_reducible refine g_cont ?_ | with_reducible refine g_if ?_ | ((with_reducible show tVar _ _ _ _); refine ⟨_, rfl, ?_⟩) | with_reducible refine g_c ?_
  | with_reducible refine g_op ?_ | with_reducible refine g_un ?_ | with_reducible refine g_ifE ?_ | with_reducible refine g_test ?_ | with_reducible refine g_B ?_ | with_reducible refine g_and ?_ | with_reducible refine g_or ?_ | with_reducible refine g_not ?_
  | with_reducible refine g_andV ?_ | with_reducible refine g_orV ?_ | with_reducible refine g_notV ?_ | with_reducible refine g_nil ?_ | with_reducible refine g_cons ?_ | with_reducible refine g_cb ?_ | with_reducible refine g_f ?_
  | with_reducible refine g_bl ?_ | with_reducible refine g_blV ?_ | with_reducible refine g_part ?_ | with_reducible refine g_nopart ?_ | with_reducible refine g_sl ?_ | with_reducible refine g_intx ?_
  | with_reducible refine r_i0 ?_ | with_reducible refine r_eqi ?_ | with_reducible refine r_nei ?_ | with_reducible refine r_u ?_
  | with_reducible refine r_isN_non ?_ | with_reducible refine r_isN_ref ?_ | with_reducible refine r_isN_int ?_ | with_reducible refine r_notN_non ?_ | with_reducible refine r_notN_ref ?_
  | with_reducible refine h_lc ?_ | with_reducible refine h_for ?_ | with_reducible refine h_rng1 ?_ | with_reducible refine h_rng2 ?_ | with_reducible refine h_ilist ?_ | with_reducible refine h_lst ?_ | with_reducible refine h_tup ?_
  | with_reducible refine h_fld ?_ | with_reducible refine h_m ?_ | with_reducible refine g_sm ?_ | with_reducible refine g_cm ?_ | with_reducible refine h_mk ?_ | with_reducible refine g_chain ?_ | with_reducible refine g_asgsub ?_ | with_reducible refine g_sfld ?_
  | with_reducible refine g_bm ?_ | with_reducible refine g_bm0 ?_
  | ((with_reducible refine' r_tup0 ?gh ?_); (case gh => walk_at "h")) | ((with_reducible refine' r_tup1 ?gh ?_); (case gh => walk_at "h"))
  | ((with_reducible refine' And.intro (ty_lst ?gh) ?_); (case gh => walk_at "h"))
  | with_reducible refine h_lrg ?_ | with_reducible refine h_rg1 ?_ | with_reducible refine h_rg2 ?_ | with_reducible refine g_int2 ?_ | with_reducible refine h_sfld ?_ | with_reducible refine h_augx rfl ?_ | with_reducible refine h_tru ?_ | with_reducible refine g_ipI ?_ | with_reducible refine h_enum ?_ | with_reducible refine h_enumS ?_ | with_reducible refine h_m1 ?_ | with_reducible refine g_isS ?_ | with_reducible refine h_m0 ?_ | with_reducible refine h_mS ?_ | with_reducible refine h_nodeX ?_ | with_reducible refine h_cval ?_
  | with_reducible refine i_true ?_ | with_reducible refine i_false ?_ | with_reducible refine i_nt ?_ | with_reducible refine i_nf ?_)
local macro_rules | `(tactic| walk_at "go") => `(tactic| ((repeat' walk_at "g1"); (try dsimp only)))
section
variable {P : Program} {w : World} {K : PySem.W.Frag} {mg : Str → Option Value} {base : Heap}
theorem sc_Forest__check_out : FnScope ["self", "node"] ["self", "node"] (defScope s_Forest__check_out) := ⟨rfl, rfl, rfl, by decide +kernel, rfl, by decide +kernel, by decide +kernel⟩
theorem bd_Forest__check_out : BindsP "_check_out" "Forest._check_out" s_Forest__check_out ["self", "node"] := fun _ _ _ _ _ _ us hl => match us, hl with | [_, _], _ => rfl
def sp_Forest__check_out (K : PySem.W.Frag) : Sp := fun vs H Q E => ∃ (f : Addr) (n : Nat) (ps : Lk.PL) (z : Int), vs = [.ref f, .int z] ∧ ForestAt K H f n ps ∧ Lk.OK n ps ∧ n ≤ 60 ∧ (isOutZ n ps z = true → Q .non H) ∧ (isOutZ n ps z = false → BadE K z H E)
set_option maxHeartbeats 4000000 in
theorem ok_Forest__check_out (T : Tx K mg) (B : Bx P K mg) : FnR P w K mg base (L2.CX P w) 4 (He.ma K (He.ga K "Forest") "_check_out") (sp_Forest__check_out K) := by
  refine (T.F_Forest__check_out).okX sc_Forest__check_out bd_Forest__check_out (fun vs H Q E h => ?_) (fun cdv A outer s H vs Q E hr h => ?_)
  · obtain ⟨f, n, ps, z, rfl, _⟩ := h
    rfl
  · obtain ⟨f, n, ps, z, rfl, hF, o, hn, q1, q2⟩ := h
    refine ⟨_, (pss_one (ps_if (pt_cmpR (op_notInOwn (T.mForest___contains__).at_ (T.mForest___contains__).fn (ok_Forest___contains__ (K := K) T) (hr.mono (by decide)) pass0) (pv 1) (pv 0) (by rfl)) (pss_one (ps_raiseBn (C := He.ga K "BadNode") rfl B.txt hr (takes_of rfl rfl rfl rfl) (by exact (pa_cons (pv 1) pa_nil)))) pss_nil)), ?_⟩
    walk_at "go"
    obtain ⟨dx, l, pq, hf⟩ := hF
    refine ⟨f, _, _, rfl, hf.obj, f, n, ps, z, rfl, ⟨dx, l, pq, hf⟩, o, hn, _, rfl, ?_⟩
    dsimp only
    walk_at "go"
    cases hz : isOutZ n ps z with
    | true =>
      refine nb_yes rfl ?_
      walk_at "go"
      exact q1 hz
    | false =>
      refine nb_no rfl ?_
      refine h_raiseBn ?_
      walk_at "go"
      exact ⟨_, rfl, q2 hz⟩
theorem sc_Forest_parent : FnScope ["self", "node"] ["self", "node"] (defScope s_Forest_parent) := ⟨rfl, rfl, rfl, by decide +kernel, rfl, by decide +kernel, by decide +kernel⟩
theorem bd_Forest_parent : BindsP "parent" "Forest.parent" s_Forest_parent ["self", "node"] := fun _ _ _ _ _ _ us hl => match us, hl with | [_, _], _ => rfl
def sp_Forest_parent (K : PySem.W.Frag) : Sp := fun vs H Q E => ∃ (f : Addr) (n : Nat) (ps : Lk.PL) (z : Int), vs = [.ref f, .int z] ∧ ForestAt K H f n ps ∧ Lk.OK n ps ∧ n ≤ 60 ∧ (isOutZ n ps z = true → Q (.int (Lk.par ps z.toNat : Int)) H) ∧ (isOutZ n ps z = false → BadE K z H E)
theorem isOutZ_some {n : Nat} {ps : Lk.PL} {z : Int} (h : isOutZ n ps z = true) : ∃ x : Nat, z = (x : Int) ∧ 1 ≤ x ∧ x ≤ n ∧ Lk.at_ ps x ≠ none := by
  unfold isOutZ at h
  split at h
  next c =>
    refine ⟨z.toNat, by omega, by omega, by omega, ?_⟩
    obtain ⟨a, b, e⟩ := outB_some h
    rw [e]; simp
  next => cases h
set_option maxHeartbeats 4000000 in
theorem ok_Forest_parent (T : Tx K mg) (B : Bx P K mg) : FnR P w K mg base (L2.CX P w) 5 (He.ma K (He.ga K "Forest") "parent") (sp_Forest_parent K) := by
  refine (T.F_Forest_parent).okX sc_Forest_parent bd_Forest_parent (fun vs H Q E h => ?_) (fun cdv A outer s H vs Q E hr h => ?_)
  · obtain ⟨f, n, ps, z, rfl, _⟩ := h
    rfl
  · obtain ⟨f, n, ps, z, rfl, ⟨dx, l, pq, hf⟩, o, hn, q1, q2⟩ := h
    refine ⟨_, (pss_cons (ps_expr (pe_m (pv 0) T.cForest T.mForest__check_out (ok_Forest__check_out (K := K) T B) (hr.mono (by decide)) passX (pa_cons (pv 1) pa_nil))) (PSs.nox (pss_one (ps_ret (pe_ix (ixl (K := K) rfl) (fldK (K := K) rfl (pv 0)) (pv 1) (fun _ _ => rfl)))))), ?_⟩
    walk_at "go"
    refine am_f ⟨dx, l, pq, hf⟩ ?_
    walk_at "go"
    refine ⟨f, n, ps, z, rfl, ⟨dx, l, pq, hf⟩, o, hn, fun hz => ?_, q2⟩
    obtain ⟨x, rfl, h1, h2, hx⟩ := isOutZ_some hz
    have q := q1 hz
    rw [Int.toNat_natCast] at q
    walk_at "go"
    refine fl_parents T hf ?_
    walk_at "go"
    refine r_ixl hf.par (listV_get (by omega)) ?_
    rw [par_t hx]
    exact q
theorem sc_Forest_chain : FnScope ["self", "node", "above", "upper"] ["self", "node"] (defScope s_Forest_chain) := ⟨rfl, rfl, rfl, by decide +kernel, rfl, by decide +kernel, by decide +kernel⟩
theorem bd_Forest_chain : BindsP "chain" "Forest.chain" s_Forest_chain ["self", "node"] := fun _ _ _ _ _ _ us hl => match us, hl with | [_, _], _ => rfl
def sp_Forest_chain (K : PySem.W.Frag) : Sp := fun vs H Q E => ∃ (f : Addr) (n : Nat) (ps : Lk.PL) (z : Int), vs = [.ref f, .int z] ∧ ForestAt K H f n ps ∧ Lk.OK n ps ∧ n ≤ 60 ∧ (isOutZ n ps z = true → ∀ p H', H p = none → Same H H' → H' p = some (.lst (intsV (Lk.chain ps z.toNat))) → Q (.ref p) H') ∧ (isOutZ n ps z = false → BadE K z H E)
set_option maxHeartbeats 4000000 in
theorem ok_Forest_chain (T : Tx K mg) (B : Bx P K mg) : FnR P w K mg base (L2.CX P w) 5 (He.ma K (He.ga K "Forest") "chain") (sp_Forest_chain K) := by
  refine (T.F_Forest_chain).okX sc_Forest_chain bd_Forest_chain (fun vs H Q E h => ?_) (fun cdv A outer s H vs Q E hr h => ?_)
  · obtain ⟨f, n, ps, z, rfl, _⟩ := h
    rfl
  · obtain ⟨f, n, ps, z, rfl, ⟨dx, l, pq, hf⟩, o, hn, q1, q2⟩ := h
    refine ⟨_, (pss_cons (ps_expr (pe_m (pv 0) T.cForest T.mForest__check_out (ok_Forest__check_out (K := K) T B) (hr.mono (by decide)) passX (pa_cons (pv 1) pa_nil))) (PSs.nox (pss_cons (ps_set (i := 2) sc_Forest_chain.nd rfl (by first | exact Or.inl rfl | exact Or.inr rfl) (pe_lst pa_nil)) (pss_cons (ps_set (i := 3) sc_Forest_chain.nd rfl (by first | exact Or.inl rfl | exact Or.inr rfl) (pe_ix (ixl (K := K) rfl) (fldK (K := K) rfl (pv 0)) (pv 1) (fun _ _ => rfl))) (pss_cons (ps_while PassesOwn.never (pt_cmpR op_gt (pv 3) pe_int (nomark _)) (pss_cons (ps_expr (bmK (K := K) rfl PySem.F.plainAttrs_list PySem.F.slot_list_append PySem.F.type_list_append mt_append (pv 2) (pa_cons (pv 3) pa_nil))) (pss_one (ps_set (i := 3) sc_Forest_chain.nd rfl (by first | exact Or.inl rfl | exact Or.inr rfl) (pe_ix (ixl (K := K) rfl) (fldK (K := K) rfl (pv 0)) (pv 3) (fun _ _ => rfl)))))) (pss_one (ps_ret (pv 2)))))))), ?_⟩
    walk_at "go"
    refine am_f ⟨dx, l, pq, hf⟩ ?_
    walk_at "go"
    refine ⟨f, n, ps, z, rfl, ⟨dx, l, pq, hf⟩, o, hn, fun hz => ?_, q2⟩
    obtain ⟨x, rfl, h1, h2, hx⟩ := isOutZ_some hz
    have q := q1 hz
    rw [Int.toNat_natCast] at q
    walk_at "go"
    refine a_lst (xs := []) (fun cp H1 hcp e1 hv1 => ?_) (Nat.zero_le _)
    walk_at "go"
    have hf1 := hf.mono e1
    refine fl_parents T hf1 ?_
    walk_at "go"
    refine r_ixl hf1.par (listV_get (by omega)) ?_
    rw [par_t hx]
    refine h_while (fun m σ H' => ∃ (acc : List Nat) (y : Nat), σ = [some (.ref f), some (.int (x : Int)), some (.ref cp), some (.int (Lk.par ps y : Int))] ∧ Same H H' ∧ H' cp = some (.lst (intsV acc)) ∧ acc ++ Lk.chain ps y = Lk.chain ps x ∧ Lk.at_ ps y ≠ none ∧ m = (Lk.chain ps y).length)
      (Lk.chain ps x).length ⟨[], x, rfl, e1, hv1, rfl, hx, rfl⟩ ?_
    rintro m σ H2 ⟨acc, y, rfl, e2, hv2, hc, hy, rfl⟩
    have hch := o.chain_eq hy
    have hlen : acc.length ≤ n := by
      have := congrArg List.length hc
      rw [List.length_append] at this
      have := o.chain_len hx
      omega
    walk_at "go"
    by_cases hp : Lk.par ps y = 0
    · rw [if_pos hp] at hch
      rw [hch, List.append_nil] at hc
      refine wh_f (decide_eq_false (by omega)) ?_
      walk_at "go"
      exact q cp H2 hcp e2 (hc ▸ hv2)
    · rw [if_neg hp] at hch
      have po := o.par_out hy hp
      have pp := o.pos po.1
      refine wh_t (decide_eq_true (by omega)) ?_
      walk_at "go"
      refine a_app hv2 (by rw [intsV_len]; omega) fun H3 hv3 b3 => ?_
      have e3 := Same.but e2 hcp b3
      have hf3 := hf.mono e3
      walk_at "go"
      refine fl_parents T hf3 ?_
      walk_at "go"
      refine r_ixl hf3.par (listV_get (by omega)) ?_
      rw [par_t po.1]
      refine ⟨_, ?_, acc ++ [Lk.par ps y], Lk.par ps y, rfl, e3, ?_, ?_, po.1, rfl⟩
      · rw [hch, List.length_cons]; omega
      · rw [hv3]
        unfold intsV
        rw [List.map_append]
        rfl
      · rw [List.append_assoc, ← hc, hch]
        rfl
theorem sc_Forest_below : FnScope ["self", "node", "first", "other"] ["self", "node"] (defScope s_Forest_below) := ⟨rfl, rfl, rfl, by decide +kernel, rfl, by decide +kernel, by decide +kernel⟩
theorem bd_Forest_below : BindsP "below" "Forest.below" s_Forest_below ["self", "node"] := fun _ _ _ _ _ _ us hl => match us, hl with | [_, _], _ => rfl
def belowL (ps : Lk.PL) (x : Nat) : List Nat := (List.range' (Lk.lL ps x + 1) (Lk.lR ps x - Lk.lL ps x - 1)).filter fun y => !decide (y = x)
def sp_Forest_below (K : PySem.W.Frag) : Sp := fun vs H Q E => ∃ (f : Addr) (n : Nat) (ps : Lk.PL) (z : Int), vs = [.ref f, .int z] ∧ ForestAt K H f n ps ∧ Lk.OK n ps ∧ n ≤ 60 ∧ (isOutZ n ps z = true → ∀ p H', H p = none → Same H H' → H' p = some (.lst (intsV (belowL ps z.toNat))) → Q (.ref p) H') ∧ (isOutZ n ps z = false → BadE K z H E)
set_option maxHeartbeats 4000000 in
theorem ok_Forest_below (T : Tx K mg) (B : Bx P K mg) : FnR P w K mg base (L2.CX P w) 5 (He.ma K (He.ga K "Forest") "below") (sp_Forest_below K) := by
  refine (T.F_Forest_below).okX sc_Forest_below bd_Forest_below (fun vs H Q E h => ?_) (fun cdv A outer s H vs Q E hr h => ?_)
  · obtain ⟨f, n, ps, z, rfl, _⟩ := h
    rfl
  · obtain ⟨f, n, ps, z, rfl, ⟨dx, l, pq, hf⟩, o, hn, q1, q2⟩ := h
    refine ⟨_, (pss_cons (ps_expr (pe_m (pv 0) T.cForest T.mForest__check_out (ok_Forest__check_out (K := K) T B) (hr.mono (by decide)) passX (pa_cons (pv 1) pa_nil))) (PSs.nox (pss_cons (ps_set (i := 2) sc_Forest_below.nd rfl (by first | exact Or.inl rfl | exact Or.inr rfl) (pe_op op_add (pe_m (fldK (K := K) rfl (pv 0)) T.cLinks T.mLinks_left (ok_Links_left (K := K) T) (hr.mono (by decide)) pass0 (pa_cons (pv 1) pa_nil)) pe_int)) (pss_one (ps_ret (pe_lc (own := [("other", 3)]) (g := gName 3) rfl sc_Forest_below.nd (pi_range2 rfl T.n_range (pa_cons (pv 2) (pa_cons (pe_m (fldK (K := K) rfl (pv 0)) T.cLinks T.mLinks_right (ok_Links_right (K := K) T) (hr.mono (by decide)) pass0 (pa_cons (pv 1) pa_nil)) pa_nil))) (blkOk_by (own := [("other", 3)]) (N := ["self", "node", "first", "other"]) (sc := defScope s_Forest_below) (by decide +kernel)) (fun _ _ _ _ _ => pg_name (i := 3) sc_Forest_below.nd rfl (Or.inl rfl)) (fun _ _ _ _ _ => (pts_one (pt_cmpR op_ne (pv 3) (pv 1) (nomark _)))) (fun _ _ _ _ _ => (pv 3)))))))), ?_⟩
    walk_at "go"
    refine am_f ⟨dx, l, pq, hf⟩ ?_
    walk_at "go"
    refine ⟨f, n, ps, z, rfl, ⟨dx, l, pq, hf⟩, o, hn, fun hz => ?_, q2⟩
    obtain ⟨x, rfl, h1, h2, hx⟩ := isOutZ_some hz
    have q := q1 hz
    rw [Int.toNat_natCast] at q
    have lk := o.links h1 h2
    walk_at "go"
    refine fl_links T hf ?_
    walk_at "go"
    refine am_l hf.lnk ?_
    walk_at "go"
    refine ⟨l, n, x, _, _, _, _, rfl, hf.lnk, h1, by omega, listV_get (by omega), ?_⟩
    rw [leftV_pos h1]
    walk_at "go"
    refine fl_links T hf ?_
    walk_at "go"
    refine am_l hf.lnk ?_
    walk_at "go"
    refine ⟨l, n, x, _, _, _, _, rfl, hf.lnk, h2, listV_get (by omega), ?_⟩
    rw [rightV_le h2]
    walk_at "go"
    refine a_r2 (Lk.lL ps x + 1) (Lk.lR ps x - Lk.lL ps x - 1) (by omega) (by omega) (by omega) ?_
    refine l_rN (fun y => !decide (y = x)) (fun i => .int (i : Int)) (by omega) (fun _ => rfl) (fun i H1 _ hi e R k => ?_) (fun i H1 _ hi e hf R k => ?_) (fun D H1 hD e1 hd => ?_)
    · walk_at "go"
      have k := k H1 (Same.refl _)
      have ee : decide (i = x) = decide ((i : Int) = (x : Int)) := by
        by_cases h : i = x
        · rw [decide_eq_true h, decide_eq_true (by omega)]
        · rw [decide_eq_false h, decide_eq_false (by omega)]
      rw [ee] at k
      exact k
    · walk_at "go"
      exact k H1 (Same.refl _)
    exact q D H1 hD e1 hd
end
end Lw
set_option Elab.async false
set_option linter.all false
set_option maxRecDepth 100000
set_option maxHeartbeats 4000000
namespace Lw
open PySem PySem.Spec PyProof.Rows L2
local macro_rules | `(tactic| walk_at "h") => `(tactic| first | assumption | (refine (by assumption : Same _ _) _ _ ?_; walk_at "h"))
local macro_rules | `(tactic| walk_at "g1") => `(tactic| first
  | with_reducible refine g_seq ?_ | with_reducible refine g_asg ?_ | with_reducible refine g_name ?_ | with_reducible refine g_drop ?_ | with_reducible refine g_ret ?_ | with_reducible refine g_retN ?_
  | with_reducible refine g_next ?_ | with_reducible refine g_brk ?_ | with_reducible refine g_cont ?_ | with_reducible refine g_if ?_ | ((with_reducible show tVar _ _ _ _); refine ⟨_, rfl, ?_⟩) | with_reducible refine g_c ?_
  | with_reducible refine g_op ?_ | with_reducible refine g_un ?_ | with_reducible refine g_ifE ?_ | with_reducible refine g_test ?_ | with_reducible refine g_B ?_ | with_reducible refine g_and ?_ | with_reducible refine g_or ?_ | with_reducible refine g_not ?_
  | with_reducible refine g_andV ?_ | with_reducible refine g_orV ?_ | with_reducible refine g_notV ?_ | with_reducible refine g_nil ?_ | with_reducible refine g_cons ?_ | with_reducible refine g_cb ?_ | with_reducible refine g_f ?_
  | with_reducible refine g_bl ?_ | with_reducible refine g_blV ?_ | with_reducible refine g_part ?_ | with_reducible refine g_nopart ?_ | with_reducible refine g_sl ?_ | with_reducible refine g_intx ?_
  | with_reducible refine r_i0 ?_ | with_reducible refine r_eqi ?_ | with_reducible refine r_nei ?_ | with_reducible refine r_u ?_
  | with_reducible refine r_isN_non ?_ | with_reducible refine r_isN_ref ?_ | with_reducible refine r_isN_int ?_ | with_reducible refine r_notN_non ?_ | with_reducible refine r_notN_ref ?_
  | with_reducible refine h_lc ?_ | with_reducible refine h_for ?_ | with_reducible refine h_rng1 ?_ | with_reducible refine h_rng2 ?_ | with_reducible refine h_ilist ?_ | with_reducible refine h_lst ?_ | with_reducible refine h_tup ?_
  | with_reducible refine h_fld ?_ | with_reducible refine h_m ?_ | with_reducible refine g_sm ?_ | with_reducible refine g_cm ?_ | with_reducible refine g_mk ?_ | with_reducible refine g_chain ?_ | with_reducible refine g_asgsub ?_ | with_reducible refine g_sfld ?_
  | with_reducible refine g_bm ?_ | with_reducible refine g_bm0 ?_
  | ((with_reducible refine' r_tup0 ?gh ?_); (case gh => walk_at "h")) | ((with_reducible refine' r_tup1 ?gh ?_); (case gh => walk_at "h"))
  | with_reducible refine i_true ?_ | with_reducible refine i_false ?_)
local macro_rules | `(tactic| walk_at "go") => `(tactic| ((repeat' walk_at "g1"); (try dsimp only)))
section
variable {P : Program} {w : World} {K : PySem.W.Frag} {mg : Str → Option Value} {base : Heap}
theorem sc_law_is_top : FnScope ["_law_pairs", "_law_node_here"] ["_law_pairs", "_law_node_here"] (defScope s_law_is_top) := ⟨rfl, rfl, rfl, by decide +kernel, rfl, by decide +kernel, by decide +kernel⟩
theorem bd_law_is_top : BindsP "_law_is_top" "_law_is_top" s_law_is_top ["_law_pairs", "_law_node_here"] := fun _ _ _ _ _ _ us hl => match us, hl with | [_, _], _ => rfl
def sp_law_is_top : Sp := fun vs H Q _ => ∃ (p : Addr) (ps : Lk.PL) (x : Nat), vs = [.ref p, .int (x : Int)] ∧ PairsAt H p ps ∧ Bd ps ∧ x < ps.length ∧ Q (.bl (topB ps x)) H
set_option maxHeartbeats 4000000 in
theorem ok_law_is_top (T : Tx K mg) : FnR P w K mg base CX0 1 (He.ga K "_law_is_top") (sp_law_is_top ) := by
  refine (T.F_law_is_top).ok sc_law_is_top bd_law_is_top (fun vs H Q E h => ?_) (fun cdv A outer s H vs Q E hr h => ?_)
  · obtain ⟨p, ps, x, rfl, _⟩ := h
    rfl
  · obtain ⟨p, ps, x, rfl, hp, hb, hx, q⟩ := h
    refine ⟨_, (pss_cons (ps_if (pt_cmpR op_isN1 (pe_ix (ixl (K := K) rfl) (pv 0) (pv 1) (fun _ _ => rfl)) pe_non (nomark _)) (pss_one (ps_ret pe_bl)) pss_nil) (pss_one (ps_ret (pe_and (pe_cmpR op_isN1 (pe_ix (ixl (K := K) rfl) (pv 0) (pe_ix (ixt (K := K) rfl) (pe_ix (ixl (K := K) rfl) (pv 0) (pv 1) (fun _ _ => rfl)) pe_int (fun _ _ => rfl)) (fun _ _ => rfl)) pe_non (nomark _)) (pe_one (pe_cmpR op_isN1 (pe_ix (ixl (K := K) rfl) (pv 0) (pe_ix (ixt (K := K) rfl) (pe_ix (ixl (K := K) rfl) (pv 0) (pv 1) (fun _ _ => rfl)) pe_int (fun _ _ => rfl)) (fun _ _ => rfl)) pe_non (nomark _))))))), ?_⟩
    walk_at "go"
    refine e_isN hp hx ?_
    walk_at "go"
    refine i_b (fun e => ?_) (fun e => ?_)
    · rw [topB_none (inB_iff e)] at q
      walk_at "go"
      exact q
    · obtain ⟨a, b, e⟩ := inB_some e
      have hab := hb e
      rw [topB_some e] at q
      walk_at "go"
      refine e_fst hp e (e_isN hp hab.1 ?_)
      walk_at "go"
      refine i_b (fun e1 => ?_) (fun e1 => ?_)
      · rw [e1] at q
        walk_at "go"
        refine e_snd hp e (e_isN hp hab.2 ?_)
        exact q
      · rw [e1] at q
        exact q
theorem sc_law_relinked : FnScope ["_law_pairs", "_law_node_here", "_law_new"] ["_law_pairs", "_law_node_here"] (defScope s_law_relinked) := ⟨rfl, rfl, rfl, by decide +kernel, rfl, by decide +kernel, by decide +kernel⟩
theorem bd_law_relinked : BindsP "_law_relinked" "_law_relinked" s_law_relinked ["_law_pairs", "_law_node_here"] := fun _ _ _ _ _ _ us hl => match us, hl with | [_, _], _ => rfl
def sp_law_relinked : Sp := fun vs H Q _ => ∃ (p : Addr) (ps : Lk.PL) (x : Nat), vs = [.ref p, .int (x : Int)] ∧ PairsAt H p ps ∧ x < ps.length ∧ ∀ p' H', H p' = none → Same H H' → PairsAt H' p' (Lk.rel ps x) → Q (.ref p') H'
set_option maxHeartbeats 4000000 in
theorem ok_law_relinked (T : Tx K mg) : FnR P w K mg base CX0 1 (He.ga K "_law_relinked") (sp_law_relinked ) := by
  refine (T.F_law_relinked).ok sc_law_relinked bd_law_relinked (fun vs H Q E h => ?_) (fun cdv A outer s H vs Q E hr h => ?_)
  · obtain ⟨p, ps, x, rfl, _⟩ := h
    rfl
  · obtain ⟨p, ps, x, rfl, hp, hx, q⟩ := h
    refine ⟨_, (pss_cons (ps_set (i := 2) sc_law_relinked.nd rfl (by first | exact Or.inl rfl | exact Or.inr rfl) (pe_callTy (listK (K := K) rfl) (by rfl) T.n_list (by decide +kernel) (pa_cons (pv 0) pa_nil))) (pss_cons (ps_asg pe_non (pg_sub (pv 2) (pv 1) set_list)) (pss_one (ps_ret (pv 2))))), ?_⟩
    walk_at "go"
    refine a_plist hp fun l H3 hl3 e3 hp3 => ?_
    walk_at "go"
    refine r_pset hp3 hx (.inl ⟨rfl, rfl⟩) fun xs hp5 => ?_
    walk_at "go"
    exact q l _ hl3 (Same.mut e3 hl3) hp5
theorem sc_law_left : FnScope ["_law_pairs", "_law_node_here", "_law_v"] ["_law_pairs", "_law_node_here"] (defScope s_law_left) := ⟨rfl, rfl, rfl, by decide +kernel, rfl, by decide +kernel, by decide +kernel⟩
theorem bd_law_left : BindsP "_law_left" "_law_left" s_law_left ["_law_pairs", "_law_node_here"] := fun _ _ _ _ _ _ us hl => match us, hl with | [_, _], _ => rfl
def sp_law_left : Sp := fun vs H Q _ => ∃ (p : Addr) (ps : Lk.PL) (x : Nat), vs = [.ref p, .int (x : Int)] ∧ PairsAt H p ps ∧ ps.length ≤ 100 ∧ x < ps.length ∧ 1 ≤ x ∧ Lk.at_ ps 0 = none ∧ ∀ H', Same H H' → Q (.int (Lk.lL ps x : Int)) H'
set_option maxHeartbeats 4000000 in
theorem ok_law_left (T : Tx K mg) : FnR P w K mg base CX0 1 (He.ga K "_law_left") (sp_law_left ) := by
  refine (T.F_law_left).ok sc_law_left bd_law_left (fun vs H Q E h => ?_) (fun cdv A outer s H vs Q E hr h => ?_)
  · obtain ⟨p, ps, x, rfl, _⟩ := h
    rfl
  · obtain ⟨p, ps, x, rfl, hp, hl, hx, hx1, h0, q⟩ := h
    refine ⟨_, (pss_cons (ps_if (pt_cmpR op_notN1 (pe_ix (ixl (K := K) rfl) (pv 0) (pv 1) (fun _ _ => rfl)) pe_non (nomark _)) (pss_one (ps_ret (pe_ix (ixt (K := K) rfl) (pe_ix (ixl (K := K) rfl) (pv 0) (pv 1) (fun _ _ => rfl)) pe_int (fun _ _ => rfl)))) pss_nil) (pss_one (ps_ret (pe_callB (maxK (K := K) rfl rfl) (by rfl) T.n_max (by decide +kernel) (pa_cons (pe_lc (own := [("_law_v", 2)]) (g := gName 2) rfl sc_law_left.nd (pi_range1 rfl T.n_range (pa_cons (pv 1) pa_nil)) (blkOk_by (own := [("_law_v", 2)]) (N := ["_law_pairs", "_law_node_here", "_law_v"]) (sc := defScope s_law_left) (by decide +kernel)) (fun _ _ _ _ _ => pg_name (i := 2) sc_law_left.nd rfl (Or.inl rfl)) (fun _ _ _ _ _ => (pts_one (pt_cmpR op_isN1 (pe_ix (ixl (K := K) rfl) (pv 0) (pv 2) (fun _ _ => rfl)) pe_non (nomark _)))) (fun _ _ _ _ _ => (pv 2))) pa_nil))))), ?_⟩
    walk_at "go"
    refine e_notN hp hx ?_
    walk_at "go"
    refine i_b (fun e => ?_) (fun e => ?_)
    · obtain ⟨a, b, e⟩ := outB_some e
      rw [Lk.lL_some e] at q
      walk_at "go"
      refine e_fst hp e ?_
      exact q H (Same.refl _)
    · rw [Lk.lL_none (outB_iff e)] at q
      walk_at "go"
      refine a_r1 x rfl (by omega) ?_
      refine l_rN (inB ps) (fun i => .int (i : Int)) (by omega) (fun _ => rfl) (fun i H1 _ hi e R k => ?_) (fun i H1 _ hi e hf R k => ?_) (fun D H1 hD e1 hd => ?_)
      · walk_at "go"
        exact e_isN (hp.mono e) (by omega) ⟨_, rfl, k H1 (Same.refl _)⟩
      · walk_at "go"
        exact k H1 (Same.refl _)
      walk_at "go"
      exact r_maxlow h0 hx1 hd (q H1 e1)
theorem sc_law_right : FnScope ["_law_pairs", "_law_node_here", "_law_v"] ["_law_pairs", "_law_node_here"] (defScope s_law_right) := ⟨rfl, rfl, rfl, by decide +kernel, rfl, by decide +kernel, by decide +kernel⟩
theorem bd_law_right : BindsP "_law_right" "_law_right" s_law_right ["_law_pairs", "_law_node_here"] := fun _ _ _ _ _ _ us hl => match us, hl with | [_, _], _ => rfl
def sp_law_right : Sp := fun vs H Q _ => ∃ (p : Addr) (ps : Lk.PL) (x n : Nat), vs = [.ref p, .int (x : Int)] ∧ PairsAt H p ps ∧ ps.length = n + 2 ∧ n ≤ 60 ∧ x ≤ n ∧ Lk.at_ ps (n + 1) = none ∧ ∀ H', Same H H' → Q (.int (Lk.lR ps x : Int)) H'
set_option maxHeartbeats 4000000 in
theorem ok_law_right (T : Tx K mg) : FnR P w K mg base CX0 1 (He.ga K "_law_right") (sp_law_right ) := by
  refine (T.F_law_right).ok sc_law_right bd_law_right (fun vs H Q E h => ?_) (fun cdv A outer s H vs Q E hr h => ?_)
  · obtain ⟨p, ps, x, n, rfl, _⟩ := h
    rfl
  · obtain ⟨p, ps, x, n, rfl, hp, hl, hn, hx, h0, q⟩ := h
    refine ⟨_, (pss_cons (ps_if (pt_cmpR op_notN1 (pe_ix (ixl (K := K) rfl) (pv 0) (pv 1) (fun _ _ => rfl)) pe_non (nomark _)) (pss_one (ps_ret (pe_ix (ixt (K := K) rfl) (pe_ix (ixl (K := K) rfl) (pv 0) (pv 1) (fun _ _ => rfl)) pe_int (fun _ _ => rfl)))) pss_nil) (pss_one (ps_ret (pe_callB (minK (K := K) rfl rfl) (by rfl) T.n_min (by decide +kernel) (pa_cons (pe_lc (own := [("_law_v", 2)]) (g := gName 2) rfl sc_law_right.nd (pi_range2 rfl T.n_range (pa_cons (pe_op op_add (pv 1) pe_int) (pa_cons (pe_callB (lenK (K := K) rfl) (by rfl) T.n_len PySem.boot_len (pa_cons (pv 0) pa_nil)) pa_nil))) (blkOk_by (own := [("_law_v", 2)]) (N := ["_law_pairs", "_law_node_here", "_law_v"]) (sc := defScope s_law_right) (by decide +kernel)) (fun _ _ _ _ _ => pg_name (i := 2) sc_law_right.nd rfl (Or.inl rfl)) (fun _ _ _ _ _ => (pts_one (pt_cmpR op_isN1 (pe_ix (ixl (K := K) rfl) (pv 0) (pv 2) (fun _ _ => rfl)) pe_non (nomark _)))) (fun _ _ _ _ _ => (pv 2))) pa_nil))))), ?_⟩
    walk_at "go"
    refine e_notN hp (by omega) ?_
    walk_at "go"
    refine i_b (fun e => ?_) (fun e => ?_)
    · obtain ⟨a, b, e⟩ := outB_some e
      rw [Lk.lR_some e] at q
      walk_at "go"
      refine e_snd hp e ?_
      exact q H (Same.refl _)
    · rw [Lk.lR_none (outB_iff e)] at q
      walk_at "go"
      refine a_plen hp ?_
      walk_at "go"
      refine a_r2 (x + 1) (n + 1 - x) (by omega) (by omega) (by omega) ?_
      refine l_rN (inB ps) (fun i => .int (i : Int)) (by omega) (fun _ => rfl) (fun i H1 _ hi e R k => ?_) (fun i H1 _ hi e hf R k => ?_) (fun D H1 hD e1 hd => ?_)
      · walk_at "go"
        exact e_isN (hp.mono e) (by omega) ⟨_, rfl, k H1 (Same.refl _)⟩
      · walk_at "go"
        exact k H1 (Same.refl _)
      walk_at "go"
      exact r_minhigh (n := n + 1 - x) (by rw [show x + (n + 1 - x) = n + 1 by omega]; exact h0) (by omega) hd (q H1 e1)
theorem sc_law_tops : FnScope ["_law_pairs", "_law_v"] ["_law_pairs"] (defScope s_law_tops) := ⟨rfl, rfl, rfl, by decide +kernel, rfl, by decide +kernel, by decide +kernel⟩
theorem bd_law_tops : BindsP "_law_tops" "_law_tops" s_law_tops ["_law_pairs"] := fun _ _ _ _ _ _ us hl => match us, hl with | [_], _ => rfl
def sp_law_tops : Sp := fun vs H Q _ => ∃ (p : Addr) (ps : Lk.PL), vs = [.ref p] ∧ PairsAt H p ps ∧ Bd ps ∧ ps.length ≤ 100 ∧ ∀ p' H', H p' = none → Same H H' → H' p' = some (.lst (intsV ((List.range' 0 ps.length).filter (topB ps)))) → Q (.ref p') H'
set_option maxHeartbeats 4000000 in
theorem ok_law_tops (T : Tx K mg) : FnR P w K mg base CX0 2 (He.ga K "_law_tops") (sp_law_tops ) := by
  refine (T.F_law_tops).ok sc_law_tops bd_law_tops (fun vs H Q E h => ?_) (fun cdv A outer s H vs Q E hr h => ?_)
  · obtain ⟨p, ps, rfl, _⟩ := h
    rfl
  · obtain ⟨p, ps, rfl, hp, hb, hl, q⟩ := h
    refine ⟨_, (pss_one (ps_ret (pe_lc (own := [("_law_v", 1)]) (g := gName 1) rfl sc_law_tops.nd (pi_range1 rfl T.n_range (pa_cons (pe_callB (lenK (K := K) rfl) (by rfl) T.n_len PySem.boot_len (pa_cons (pv 0) pa_nil)) pa_nil)) (blkOk_by (own := [("_law_v", 1)]) (N := ["_law_pairs", "_law_v"]) (sc := defScope s_law_tops) (by decide +kernel)) (fun _ _ _ _ _ => pg_name (i := 1) sc_law_tops.nd rfl (Or.inl rfl)) (fun _ _ _ _ _ => (pts_one (pt_val (pe_f (ok_law_is_top T) (hr.mono (by decide)) rfl T.g_law_is_top T.k_law_is_top pass0 (pa_cons (pv 0) (pa_cons (pv 1) pa_nil)))))) (fun _ _ _ _ _ => (pv 1))))), ?_⟩
    walk_at "go"
    refine a_plen hp ?_
    walk_at "go"
    refine a_r1 ps.length rfl (by omega) ?_
    refine l_rN (topB ps) (fun i => .int (i : Int)) (by omega) (fun _ => rfl) (fun i H1 _ hi e R k => ?_) (fun i H1 _ hi e hf R k => ?_) (fun D H1 hD e1 hd => ?_)
    · walk_at "go"
      exact ⟨p, ps, i, rfl, hp.mono e, hb, by omega, ⟨_, rfl, k H1 (Same.refl _)⟩⟩
    · walk_at "go"
      exact k H1 (Same.refl _)
    exact q D H1 hD e1 hd
theorem sc_law_parent : FnScope ["_law_pairs", "_law_node_here", "_law_low", "_law_high"] ["_law_pairs", "_law_node_here"] (defScope s_law_parent) := ⟨rfl, rfl, rfl, by decide +kernel, rfl, by decide +kernel, by decide +kernel⟩
theorem bd_law_parent : BindsP "_law_parent" "_law_parent" s_law_parent ["_law_pairs", "_law_node_here"] := fun _ _ _ _ _ _ us hl => match us, hl with | [_, _], _ => rfl
def sp_law_parent : Sp := fun vs H Q _ => ∃ (p : Addr) (ps : Lk.PL) (x a b : Nat), vs = [.ref p, .int (x : Int)] ∧ PairsAt H p ps ∧ Bd ps ∧ Lk.at_ ps x = some (a, b) ∧ Q (.int (Lk.par ps x : Int)) H
set_option maxHeartbeats 4000000 in
theorem ok_law_parent (T : Tx K mg) : FnR P w K mg base CX0 1 (He.ga K "_law_parent") (sp_law_parent ) := by
  refine (T.F_law_parent).ok sc_law_parent bd_law_parent (fun vs H Q E h => ?_) (fun cdv A outer s H vs Q E hr h => ?_)
  · obtain ⟨p, ps, x, a, b, rfl, _⟩ := h
    rfl
  · obtain ⟨p, ps, x, a, b, rfl, hp, hb, e, q⟩ := h
    refine ⟨_, (pss_cons (ps_asg (pe_ix (ixl (K := K) rfl) (pv 0) (pv 1) (fun _ _ => rfl)) (ptupK (K := K) rfl (by rfl) (pgs_cons (pg_name (i := 2) sc_law_parent.nd rfl (by first | exact Or.inl rfl | exact Or.inr rfl)) (pgs_cons (pg_name (i := 3) sc_law_parent.nd rfl (by first | exact Or.inl rfl | exact Or.inr rfl)) pgs_nil)))) (pss_cons (ps_if (PW.pt (pw_and (pt_cmpR op_notN1 (pe_ix (ixl (K := K) rfl) (pv 0) (pv 3) (fun _ _ => rfl)) pe_non (nomark _)) (pw_and1 (pt_cmpR op_eq (pe_ix (ixt (K := K) rfl) (pe_ix (ixl (K := K) rfl) (pv 0) (pv 3) (fun _ _ => rfl)) pe_int (fun _ _ => rfl)) (pv 2) (nomark _))))) (pss_one (ps_ret (pv 3))) pss_nil) (pss_cons (ps_if (PW.pt (pw_and (pt_cmpR op_notN1 (pe_ix (ixl (K := K) rfl) (pv 0) (pv 2) (fun _ _ => rfl)) pe_non (nomark _)) (pw_and1 (pt_cmpR op_eq (pe_ix (ixt (K := K) rfl) (pe_ix (ixl (K := K) rfl) (pv 0) (pv 2) (fun _ _ => rfl)) pe_int (fun _ _ => rfl)) (pv 3) (nomark _))))) (pss_one (ps_ret (pv 2))) pss_nil) (pss_one (ps_ret pe_int))))), ?_⟩
    have hab := hb e
    rw [Lk.par_eq e] at q
    walk_at "go"
    refine r_pairsS hp e fun t ht => a_gtup2 ht ?_
    walk_at "go"
    refine e_notN hp hab.2 ?_
    walk_at "go"
    have tail : (¬ (Lk.at_ ps b).map (·.1) = some a) → ((Lk.at_ ps a).map (·.2) = some b → Q (.int (a : Int)) H) ∧ (¬ (Lk.at_ ps a).map (·.2) = some b → Q (.int 0) H) := fun h => by
      rw [if_neg h] at q
      constructor
      · intro h2; rw [if_pos h2] at q; exact q
      · intro h2; rw [if_neg h2] at q; exact q
    refine i_b (fun e1 => ?_) (fun e1 => ?_)
    · obtain ⟨c, d, e1⟩ := outB_some e1
      walk_at "go"
      refine e_fst hp e1 ?_
      walk_at "go"
      refine i_dec (fun e2 => ?_) (fun e2 => ?_)
      · have e3 : c = a := by omega
        subst e3
        rw [if_pos (by rw [e1]; rfl)] at q
        walk_at "go"
        exact q
      · have tl := tail (by rw [e1]; intro z; have z2 : c = a := Option.some.inj z; exact e2 (by omega))
        walk_at "go"
        refine e_notN hp hab.1 ?_
        walk_at "go"
        refine i_b (fun e3 => ?_) (fun e3 => ?_)
        · obtain ⟨c', d', e3⟩ := outB_some e3
          walk_at "go"
          refine e_snd hp e3 ?_
          walk_at "go"
          refine i_dec (fun e4 => ?_) (fun e4 => ?_)
          · walk_at "go"
            exact tl.1 (by rw [e3]; have e5 : d' = b := by omega
                           subst e5; rfl)
          · walk_at "go"
            exact tl.2 (by rw [e3]; intro z; have z2 : d' = b := Option.some.inj z; exact e4 (by omega))
        · walk_at "go"
          exact tl.2 (by rw [outB_iff e3]; intro z; cases z)
    · have tl := tail (by rw [outB_iff e1]; intro z; cases z)
      walk_at "go"
      refine e_notN hp hab.1 ?_
      walk_at "go"
      refine i_b (fun e3 => ?_) (fun e3 => ?_)
      · obtain ⟨c', d', e3⟩ := outB_some e3
        walk_at "go"
        refine e_snd hp e3 ?_
        walk_at "go"
        refine i_dec (fun e4 => ?_) (fun e4 => ?_)
        · walk_at "go"
          exact tl.1 (by rw [e3]; have e5 : d' = b := by omega
                         subst e5; rfl)
        · walk_at "go"
          exact tl.2 (by rw [e3]; intro z; have z2 : d' = b := Option.some.inj z; exact e4 (by omega))
      · walk_at "go"
        exact tl.2 (by rw [outB_iff e3]; intro z; cases z)
end
end Lw
set_option Elab.async false
set_option linter.all false
set_option maxRecDepth 100000
set_option maxHeartbeats 4000000
namespace Lw
open PySem PySem.Spec PyProof.Rows L2
local macro_rules | `(tactic| walk_at "h") => `(tactic| first | assumption | (refine (by assumption : Same _ _) _ _ ?_; walk_at "h"))
local macro_rules | `(tactic| walk_at "g1") => `(tactic| first
  | with_reducible refine g_seq ?_ | with_reducible refine g_asg ?_ | with_reducible refine g_name ?_ | with_reducible refine g_drop ?_ | with_reducible refine g_ret ?_ | with_reducible refine g_retN ?_
  | with_reducible refine g_next ?_ | with_reducible refine g_brk ?_ | with_reducible refine g_cont ?_ | with_reducible refine g_if ?_ | ((with_reducible show tVar _ _ _ _); refine ⟨_, rfl, ?_⟩) | with_reducible refine g_c ?_
  | with_reducible refine g_op ?_ | with_reducible refine g_un ?_ | with_reducible refine g_ifE ?_ | with_reducible refine g_test ?_ | with_reducible refine g_B ?_ | with_reducible refine g_and ?_ | with_reducible refine g_or ?_ | with_reducible refine g_not ?_
  | with_reducible refine g_andV ?_ | with_reducible refine g_orV ?_ | with_reducible refine g_notV ?_ | with_reducible refine g_nil ?_ | with_reducible refine g_cons ?_ | with_reducible refine g_cb ?_ | with_reducible refine g_f ?_
  | with_reducible refine g_bl ?_ | with_reducible refine g_blV ?_ | with_reducible refine g_part ?_ | with_reducible refine g_nopart ?_ | with_reducible refine g_sl ?_ | with_reducible refine g_intx ?_
  | with_reducible refine r_i0 ?_ | with_reducible refine r_eqi ?_ | with_reducible refine r_nei ?_ | with_reducible refine r_u ?_
  | with_reducible refine r_isN_non ?_ | with_reducible refine r_isN_ref ?_ | with_reducible refine r_isN_int ?_ | with_reducible refine r_notN_non ?_ | with_reducible refine r_notN_ref ?_
  | with_reducible refine h_lc ?_ | with_reducible refine h_for ?_ | with_reducible refine h_rng1 ?_ | with_reducible refine h_rng2 ?_ | with_reducible refine h_ilist ?_ | with_reducible refine h_lst ?_ | with_reducible refine h_tup ?_
  | with_reducible refine h_fld ?_ | with_reducible refine h_m ?_ | with_reducible refine g_sm ?_ | with_reducible refine g_cm ?_ | with_reducible refine g_mk ?_ | with_reducible refine g_chain ?_ | with_reducible refine g_asgsub ?_ | with_reducible refine g_sfld ?_
  | with_reducible refine g_bm ?_ | with_reducible refine g_bm0 ?_
  | ((with_reducible refine' r_tup0 ?gh ?_); (case gh => walk_at "h")) | ((with_reducible refine' r_tup1 ?gh ?_); (case gh => walk_at "h"))
  | ((with_reducible refine' And.intro (ty_lst ?gh) ?_); (case gh => walk_at "h"))
  | with_reducible refine i_true ?_ | with_reducible refine i_false ?_)
local macro_rules | `(tactic| walk_at "go") => `(tactic| ((repeat' walk_at "g1"); (try dsimp only)))
section
variable {P : Program} {w : World} {K : PySem.W.Frag} {mg : Str → Option Value} {base : Heap}
theorem sc_law_is_integer : FnScope ["_law_value"] ["_law_value"] (defScope s_law_is_integer) := ⟨rfl, rfl, rfl, by decide +kernel, rfl, by decide +kernel, by decide +kernel⟩
theorem bd_law_is_integer : BindsP "_law_is_integer" "_law_is_integer" s_law_is_integer ["_law_value"] := fun _ _ _ _ _ _ us hl => match us, hl with | [_], _ => rfl
def sp_law_is_integer : Sp := fun vs H Q _ => ∃ (i : Int), vs = [.int i] ∧ Q (.bl true) H
set_option maxHeartbeats 4000000 in
theorem ok_law_is_integer (T : Tx K mg) : FnR P w K mg base CX0 1 (He.ga K "_law_is_integer") (sp_law_is_integer ) := by
  refine (T.F_law_is_integer).ok sc_law_is_integer bd_law_is_integer (fun vs H Q E h => ?_) (fun cdv A outer s H vs Q E hr h => ?_)
  · obtain ⟨i, rfl, _⟩ := h
    rfl
  · obtain ⟨i, rfl, q⟩ := h
    refine ⟨_, (pss_one (ps_ret (pe_and (pe_callB (isiK (K := K) rfl) (by rfl) T.n_isinstance (by decide +kernel) (pa_cons (pv 0) (pa_cons (pe_bltn (v := .ty "int") (u := .type "int") (by rfl) T.n_int (by decide +kernel) rfl) pa_nil))) (pe_one (pe_not (pe_callB (isiK (K := K) rfl) (by rfl) T.n_isinstance (by decide +kernel) (pa_cons (pv 0) (pa_cons (pe_bltn (v := .ty "bool") (u := .type "bool") (by rfl) T.n_bool (by decide +kernel) rfl) pa_nil)))))))), ?_⟩
    walk_at "go"
    refine isi_int ?_
    walk_at "go"
    refine isi_intb ?_
    walk_at "go"
    exact q
theorem sc_law_chain : FnScope ["_law_pairs", "_law_node_here", "_law_found", "_law_at", "_law_turn"] ["_law_pairs", "_law_node_here"] (defScope s_law_chain) := ⟨rfl, rfl, rfl, by decide +kernel, rfl, by decide +kernel, by decide +kernel⟩
theorem bd_law_chain : BindsP "_law_chain" "_law_chain" s_law_chain ["_law_pairs", "_law_node_here"] := fun _ _ _ _ _ _ us hl => match us, hl with | [_, _], _ => rfl
def sp_law_chain : Sp := fun vs H Q _ => ∃ (p : Addr) (ps : Lk.PL) (x n : Nat), vs = [.ref p, .int (x : Int)] ∧ PairsAt H p ps ∧ Lk.OK n ps ∧ n ≤ 60 ∧ Lk.at_ ps x ≠ none ∧ ∀ p' H', H p' = none → Same H H' → H' p' = some (.lst (intsV (Lk.chain ps x))) → Q (.ref p') H'
set_option maxHeartbeats 4000000 in
theorem ok_law_chain (T : Tx K mg) : FnR P w K mg base CX0 2 (He.ga K "_law_chain") (sp_law_chain ) := by
  refine (T.F_law_chain).ok sc_law_chain bd_law_chain (fun vs H Q E h => ?_) (fun cdv A outer s H vs Q E hr h => ?_)
  · obtain ⟨p, ps, x, n, rfl, _⟩ := h
    rfl
  · obtain ⟨p, ps, x, n, rfl, hp, o, hn, hx, q⟩ := h
    have hl := o.len
    refine ⟨_, (pss_cons (ps_set (i := 2) sc_law_chain.nd rfl (by first | exact Or.inl rfl | exact Or.inr rfl) (pe_lst pa_nil)) (pss_cons (ps_set (i := 3) sc_law_chain.nd rfl (by first | exact Or.inl rfl | exact Or.inr rfl) (pv 1)) (pss_cons (ps_for PassesOwn.never rfl (pi_range1 rfl T.n_range (pa_cons (pe_callB (lenK (K := K) rfl) (by rfl) T.n_len PySem.boot_len (pa_cons (pv 0) pa_nil)) pa_nil)) (pg_name (i := 4) sc_law_chain.nd rfl (by first | exact Or.inl rfl | exact Or.inr rfl)) (pss_cons (ps_set (i := 3) sc_law_chain.nd rfl (by first | exact Or.inl rfl | exact Or.inr rfl) (pe_f (ok_law_parent T) (hr.mono (by decide)) rfl T.g_law_parent T.k_law_parent pass0 (pa_cons (pv 0) (pa_cons (pv 3) pa_nil)))) (pss_cons (ps_if (pt_cmpR op_eq (pv 3) pe_int (nomark _)) (pss_one (ps_ret (pv 2))) pss_nil) (pss_one (ps_expr (bmK (K := K) rfl PySem.F.plainAttrs_list PySem.F.slot_list_append PySem.F.type_list_append mt_append (pv 2) (pa_cons (pv 3) pa_nil))))))) (pss_one (ps_ret (pv 2)))))), ?_⟩
    walk_at "go"
    refine a_lst fun fp H1 hf e1 hf1 => ?_
    walk_at "go"
    refine a_plen (hp.mono e1) ?_
    walk_at "go"
    refine a_r1 ps.length rfl (by omega) ?_
    refine fo_rN (fun i σ H' => ∃ (y : Nat) (tv : Option V) (acc : List Nat), σ = [some (.ref p), some (.int (x : Int)), some (.ref fp), some (.int (y : Int)), tv] ∧ Same H H' ∧ H' fp = some (.lst (intsV acc)) ∧ acc.length = i ∧ acc ++ Lk.chain ps y = Lk.chain ps x ∧ Lk.at_ ps y ≠ none)
      ⟨x, none, [], rfl, e1, hf1, rfl, rfl, hx⟩ ?_ ?_
    · rintro i σ H2 hi ⟨y, tv, acc, rfl, e2, hf2, ha, hc, hy⟩
      obtain ⟨a, b, ey⟩ := Lk.ne_none hy
      have hch := o.chain_eq hy
      walk_at "go"
      refine ⟨p, ps, y, a, b, rfl, hp.mono e2, OKBd o, ey, ?_⟩
      walk_at "go"
      refine i_dec (fun e => ?_) (fun e => ?_)
      · have e' : Lk.par ps y = 0 := by omega
        rw [if_pos e'] at hch
        rw [hch, List.append_nil] at hc
        subst hc
        walk_at "go"
        exact q fp H2 hf e2 hf2
      · have e' : ¬ Lk.par ps y = 0 := by omega
        rw [if_neg e'] at hch
        walk_at "go"
        have hlen : acc.length ≤ n := by
          have := congrArg List.length hc
          rw [List.length_append] at this
          have := o.chain_len hx
          omega
        refine a_app hf2 (by rw [intsV_len]; omega) fun H3 hf3 b3 => ?_
        refine ⟨Lk.par ps y, _, acc ++ [Lk.par ps y], rfl, Same.but e2 hf b3, ?_, by rw [List.length_append]; simp [ha], ?_, (o.par_out hy e').1⟩
        · rw [hf3]
          unfold intsV
          rw [List.map_append]
          rfl
        · rw [List.append_assoc, ← hc, hch]
          rfl
    · rintro σ H2 ⟨y, tv, acc, rfl, e2, hf2, ha, hc, hy⟩
      exfalso
      have := congrArg List.length hc
      rw [List.length_append] at this
      have := o.chain_len hx
      omega
theorem sc_law_purse : FnScope ["_law_script", "_law_cell"] ["_law_script"] (defScope s_law_purse) := ⟨rfl, rfl, rfl, by decide +kernel, rfl, by decide +kernel, by decide +kernel⟩
theorem bd_law_purse : BindsP "_law_purse" "_law_purse" s_law_purse ["_law_script"] := fun _ _ _ _ _ _ us hl => match us, hl with | [_], _ => rfl
def sp_law_purse (K : PySem.W.Frag) : Sp := fun vs H Q _ => ∃ (a : Addr) (ns : List Int), vs = [.ref a] ∧ SqL K H a (ns.map V.int) ∧ ns.length ≤ 1000 ∧ ∀ p H', H p = none → Same H H' → PurseAt H' p → Q (.ref p) H'
set_option maxHeartbeats 4000000 in
theorem ok_law_purse (T : Tx K mg) : FnR P w K mg base CX0 1 (He.ga K "_law_purse") (sp_law_purse K) := by
  refine (T.F_law_purse).ok sc_law_purse bd_law_purse (fun vs H Q E h => ?_) (fun cdv A outer s H vs Q E hr h => ?_)
  · obtain ⟨a, ns, rfl, _⟩ := h
    rfl
  · obtain ⟨a, ns, rfl, hS, hl, q⟩ := h
    refine ⟨_, (pss_one (ps_ret (pe_lst (pa_cons (pe_lc (own := [("_law_cell", 1)]) (g := gName 1) rfl sc_law_purse.nd (pilK (K := K) rfl (pe_slice (sllK (K := K) rfl) (pv 0) po_none (po_some pe_int))) (blkOk_by (own := [("_law_cell", 1)]) (N := ["_law_script", "_law_cell"]) (sc := defScope s_law_purse) (by decide +kernel)) (fun _ _ _ _ _ => pg_name (i := 1) sc_law_purse.nd rfl (Or.inl rfl)) (fun _ _ _ _ _ => pts_nil) (fun _ _ _ _ _ => (pe_callB absR (by rfl) T.n_abs (by decide +kernel) (pa_cons (pe_callTy int1R (by rfl) T.n_int (by decide +kernel) (pa_cons (pv 1) pa_nil)) pa_nil)))) (pa_cons pe_int (pa_cons pe_int (pa_cons pe_int (pa_cons pe_int pa_nil)))))))), ?_⟩
    walk_at "go"
    obtain ⟨cs, hcs⟩ : ∃ cs : List Int, cutV (ns.map V.int) none (some 63) = cs.map V.int := ⟨(ns.drop _).take _, by unfold cutV; rw [List.map_take, List.map_drop]⟩
    have hcl : cs.length ≤ 1000 := by
      have := congrArg List.length hcs
      unfold cutV at this
      rw [List.length_take, List.length_drop, List.length_map, List.length_map] at this
      omega
    refine ⟨a, _, rfl, hS, fun c0 hc0 => ?_⟩
    rw [hcs]
    have e0 : Same H (upd H c0 (.lst (cs.map V.int))) := Same.new hc0
    refine a_il upd_same ?_
    refine l_list (fun _ => true) (fun i => .int (if cs.getD i 0 < 0 then -(cs.getD i 0) else cs.getD i 0)) (SqL.of upd_same) (by rw [List.length_map]; omega) (fun _ => rfl) (fun i x H1 hi e R k => ?_) (fun i x H1 hi e hf R k => ?_) (fun D H1 hD e1 hd => ?_)
    · exact k H1 (Same.refl _)
    · rw [List.getElem?_map] at hi
      obtain ⟨z, hz, ez⟩ : ∃ z, cs[i]? = some z ∧ V.int z = x := Option.map_eq_some_iff.mp hi
      subst ez
      have ed : cs.getD i 0 = z := by rw [List.getD_eq_getElem?_getD, hz]; rfl

      rw [ed] at k
      walk_at "go"
      refine a_int ?_
      walk_at "go"
      refine a_abs ?_
      exact k H1 (Same.refl _)
    walk_at "go"
    refine a_lst fun p H2 hp e2 hp2 => ?_
    have eH : H p = none := e0.free (e1.free hp)
    refine q p H2 eH ((e0.trans e1).trans e2) ⟨D, (List.range' 0 (cs.map V.int).length).map (fun i => if cs.getD i 0 < 0 then -(cs.getD i 0) else cs.getD i 0), 0, 0, 0, 0, hp2, ?_, ne_of_none hd hp, Int.le_refl _⟩
    rw [e2 _ _ hd]
    unfold giv
    rw [List.filter_eq_self.mpr (fun _ _ => rfl), List.map_map]
    rfl
theorem sc_law_take : FnScope ["_law_purse_here", "_law_many", "_law_step", "_law_cell", "_law_digit", "_law_mixed"] ["_law_purse_here", "_law_many"] (defScope s_law_take) := ⟨rfl, rfl, rfl, by decide +kernel, rfl, by decide +kernel, by decide +kernel⟩
theorem bd_law_take : BindsP "_law_take" "_law_take" s_law_take ["_law_purse_here", "_law_many"] := fun _ _ _ _ _ _ us hl => match us, hl with | [_, _], _ => rfl
def sp_law_take : Sp := fun vs H Q _ => ∃ (p : Addr) (m : Nat), vs = [.ref p, .int (m : Int)] ∧ PurseAt H p ∧ 0 < m ∧ m ≤ 1000 ∧ ∀ (d : Nat) H', d < m → Bt p H H' → PurseAt H' p → Q (.int (d : Int)) H'
set_option maxHeartbeats 4000000 in
theorem ok_law_take (T : Tx K mg) : FnR P w K mg base CX0 1 (He.ga K "_law_take") (sp_law_take ) := by
  refine (T.F_law_take).ok sc_law_take bd_law_take (fun vs H Q E h => ?_) (fun cdv A outer s H vs Q E hr h => ?_)
  · obtain ⟨p, m, rfl, _⟩ := h
    rfl
  · obtain ⟨p, m, rfl, ⟨c, cs, i, b, s0, a, hp⟩, hm, hm2, q⟩ := h
    have md : ∀ z : Int, ∃ d : Nat, d < m ∧ z % (m : Int) = (d : Int) := fun z => ⟨(z % (m : Int)).toNat, by have := Int.emod_lt_of_pos z (show (0 : Int) < (m : Int) by omega); have := Int.emod_nonneg z (show (m : Int) ≠ 0 by omega); omega, by have := Int.emod_nonneg z (show (m : Int) ≠ 0 by omega); omega⟩
    refine ⟨_, (pss_cons (ps_set (i := 2) sc_law_take.nd rfl (by first | exact Or.inl rfl | exact Or.inr rfl) (pe_op op_add (pe_ix (ixl (K := K) rfl) (pv 0) pe_int (fun _ _ => rfl)) pe_int)) (pss_cons (ps_asg (pv 2) (pg_sub (pv 0) pe_int set_list)) (Evl.pss_cut (ps_if (PW.pt (pw_and (pt_cmpR op_eq (pe_ix (ixl (K := K) rfl) (pv 0) pe_int (fun _ _ => rfl)) pe_int (nomark _)) (pw_and1 (pt_cmpR op_lt (pe_ix (ixl (K := K) rfl) (pv 0) pe_int (fun _ _ => rfl)) (pe_callB (lenK (K := K) rfl) (by rfl) T.n_len PySem.boot_len (pa_cons (pe_ix (ixl (K := K) rfl) (pv 0) pe_int (fun _ _ => rfl)) pa_nil)) (nomark _))))) (pss_cons (ps_set (i := 3) sc_law_take.nd rfl (by first | exact Or.inl rfl | exact Or.inr rfl) (pe_ix (ixl (K := K) rfl) (pe_ix (ixl (K := K) rfl) (pv 0) pe_int (fun _ _ => rfl)) (pe_ix (ixl (K := K) rfl) (pv 0) pe_int (fun _ _ => rfl)) (fun _ _ => rfl))) (pss_cons (ps_asg (pe_op op_add (pe_ix (ixl (K := K) rfl) (pv 0) pe_int (fun _ _ => rfl)) pe_int) (pg_sub (pv 0) pe_int set_list)) (pss_one (ps_if (pt_cmpR op_ge (pv 3) (pe_op op_pow pe_int pe_int) (nomark _)) (pss_one (ps_asg (pv 3) (pg_sub (pv 0) pe_int set_list))) (pss_one (ps_asg (pe_op op_mod (pe_callTy int1R (by rfl) T.n_int (by decide +kernel) (pa_cons (pe_op op_add (pe_op op_add (pe_op op_mul (pe_ix (ixl (K := K) rfl) (pv 0) pe_int (fun _ _ => rfl)) pe_int) (pv 3)) pe_int) pa_nil)) pe_int) (pg_sub (pv 0) pe_int set_list))))))) pss_nil) (pss_cons (ps_if (pt_cmpR op_gt (pe_ix (ixl (K := K) rfl) (pv 0) pe_int (fun _ _ => rfl)) pe_int (nomark _)) (pss_cons (ps_set (i := 4) sc_law_take.nd rfl (by first | exact Or.inl rfl | exact Or.inr rfl) (pe_op op_mod (pe_callTy int1R (by rfl) T.n_int (by decide +kernel) (pa_cons (pe_ix (ixl (K := K) rfl) (pv 0) pe_int (fun _ _ => rfl)) pa_nil)) (pv 1))) (pss_cons (ps_asg (pe_op op_fdiv (pe_ix (ixl (K := K) rfl) (pv 0) pe_int (fun _ _ => rfl)) (pv 1)) (pg_sub (pv 0) pe_int set_list)) (pss_one (ps_ret (pv 4))))) pss_nil) (pss_cons (ps_set (i := 5) sc_law_take.nd rfl (by first | exact Or.inl rfl | exact Or.inr rfl) (pe_op op_mod (pe_callTy int1R (by rfl) T.n_int (by decide +kernel) (pa_cons (pe_op op_add (pe_op op_add (pe_op op_mul (pe_ix (ixl (K := K) rfl) (pv 0) pe_int (fun _ _ => rfl)) pe_int) (pe_op op_mul (pv 2) pe_int)) pe_int) pa_nil)) pe_int)) (pss_cons (ps_set (i := 5) sc_law_take.nd rfl (by first | exact Or.inl rfl | exact Or.inr rfl) (pe_op op_mod (pe_callTy int1R (by rfl) T.n_int (by decide +kernel) (pa_cons (pe_op op_add (pe_op op_add (pe_op op_mul (pv 5) (pv 5)) (pe_op op_mul (pv 2) pe_int)) (pe_ix (ixl (K := K) rfl) (pv 0) pe_int (fun _ _ => rfl))) pa_nil)) pe_int)) (pss_one (ps_ret (pe_op op_mod (pe_callTy int1R (by rfl) T.n_int (by decide +kernel) (pa_cons (pe_op op_fdiv (pv 5) pe_int) pa_nil)) (pv 1)))))))))), ?_⟩
    walk_at "go"
    refine r_ixl (i := 3) hp.obj rfl ?_
    walk_at "go"
    refine a_set (k := 3) hp.obj (by simp) fun H1 h1 b1 => ?_
    have c1 : H1 c = some (.lst (cs.map V.int)) := by rw [b1 c hp.ne]; exact hp.cells
    walk_at "go"
    refine ⟨fun σ H' => ∃ (cv : Option V) (i' b' a' : Int), σ = [some (.ref p), some (.int (m : Int)), some (.int (s0 + 1)), cv, none, none] ∧ Bt p H H' ∧ PurAt H' p c cs i' b' (s0 + 1) a', ?_, ?_⟩
    · have fin : ∃ (cv : Option V) (i' b' a' : Int), ([some (V.ref p), some (.int (m : Int)), some (.int (s0 + 1)), none, none, none] : L2.St) = [some (.ref p), some (.int (m : Int)), some (.int (s0 + 1)), cv, none, none] ∧ Bt p H H1 ∧ PurAt H1 p c cs i' b' (s0 + 1) a' := ⟨none, i, b, a, rfl, b1, h1, c1, hp.ne, hp.i0⟩
      walk_at "go"
      refine r_ixl (i := 2) h1 rfl ?_
      walk_at "go"
      refine i_dec (fun eb => ?_) (fun eb => ?_)
      · walk_at "go"
        refine r_ixl (i := 1) h1 rfl ?_
        walk_at "go"
        refine r_ixl (i := 0) h1 rfl ?_
        walk_at "go"
        refine a_len c1 ?_
        walk_at "go"
        rw [List.length_map]
        refine i_dec (fun ei => ?_) (fun ei => ?_)
        · walk_at "go"
          refine r_ixl (i := 0) h1 rfl ?_
          walk_at "go"
          refine r_ixl (i := 1) h1 rfl ?_
          walk_at "go"
          have hi0 := hp.i0
          obtain ⟨k, hk⟩ : ∃ k : Nat, i = (k : Int) := ⟨i.toNat, by omega⟩
          subst hk
          obtain ⟨z, hz⟩ : ∃ z, cs[k]? = some z := ⟨cs[k]'(by omega), List.getElem?_eq_getElem (by omega)⟩
          refine r_ixl (i := k) c1 (by rw [List.getElem?_map, hz]; rfl) ?_
          walk_at "go"
          refine r_ixl (i := 1) h1 rfl ?_
          walk_at "go"
          refine a_set (k := 1) h1 (by simp) fun H2 h2 b2 => ?_
          have c2 : H2 c = some (.lst (cs.map V.int)) := by rw [b2 c hp.ne]; exact c1
          walk_at "go"
          refine r_i ⟨by decide, by decide, by decide⟩ ?_
          walk_at "go"
          refine i_dec (fun ez => ?_) (fun ez => ?_)
          · walk_at "go"
            refine a_set (k := 2) h2 (by simp) fun H3 h3 b3 => ?_
            have c3 : H3 c = some (.lst (cs.map V.int)) := by rw [b3 c hp.ne]; exact c2
            exact ⟨some (.int z), (k : Int) + 1, z, a, rfl, (Bt.trans b1 b2).trans b3, h3, c3, hp.ne, by omega⟩
          · walk_at "go"
            refine r_ixl (i := 4) h2 rfl ?_
            walk_at "go"
            refine r_i (.inr ⟨by decide, by decide⟩) ?_
            walk_at "go"
            refine a_int ?_
            walk_at "go"
            refine r_i (by decide) ?_
            walk_at "go"
            refine a_set (k := 4) h2 (by simp) fun H3 h3 b3 => ?_
            have c3 : H3 c = some (.lst (cs.map V.int)) := by rw [b3 c hp.ne]; exact c2
            exact ⟨some (.int z), (k : Int) + 1, b, _, rfl, (Bt.trans b1 b2).trans b3, h3, c3, hp.ne, by omega⟩
        · walk_at "go"
          exact fin
      · walk_at "go"
        exact fin
    · rintro σ H2 ⟨cv, i', b', a', rfl, b2, h2⟩
      walk_at "go"
      refine r_ixl (i := 2) h2.obj rfl ?_
      walk_at "go"
      refine i_dec (fun eb => ?_) (fun eb => ?_)
      · walk_at "go"
        refine r_ixl (i := 2) h2.obj rfl ?_
        walk_at "go"
        refine a_int ?_
        walk_at "go"
        refine r_i (by omega) ?_
        obtain ⟨d, hd, ed⟩ := md b'
        rw [ed]
        walk_at "go"
        refine r_ixl (i := 2) h2.obj rfl ?_
        walk_at "go"
        refine r_i ⟨by omega, by omega⟩ ?_
        walk_at "go"
        refine a_set (k := 2) h2.obj (by simp) fun H3 h3 b3 => ?_
        walk_at "go"
        exact q d H3 hd (b2.trans b3) ⟨c, cs, i', _, _, a', h3, by rw [b3 c hp.ne]; exact h2.cells, hp.ne, h2.i0⟩
      · walk_at "go"
        refine r_ixl (i := 4) h2.obj rfl ?_
        walk_at "go"
        refine r_i (.inr ⟨by decide, by decide⟩) ?_
        walk_at "go"
        refine r_i (.inr ⟨by decide, by decide⟩) ?_
        walk_at "go"
        refine a_int ?_
        walk_at "go"
        refine r_i (by decide) ?_
        generalize hz : (_ : Int) % 2147483647 = z
        have hz1 : 0 ≤ z := by rw [← hz]; exact Int.emod_nonneg _ (by decide)
        have hz2 : z < 2147483647 := by rw [← hz]; exact Int.emod_lt_of_pos _ (by decide)
        walk_at "go"
        refine r_i (.inl ⟨by omega, by omega⟩) ?_
        walk_at "go"
        refine r_i (.inr ⟨by decide, by decide⟩) ?_
        walk_at "go"
        refine r_ixl (i := 4) h2.obj rfl ?_
        walk_at "go"
        refine a_int ?_
        walk_at "go"
        refine r_i (by decide) ?_
        walk_at "go"
        refine r_i ⟨by decide, by decide⟩ ?_
        walk_at "go"
        refine a_int ?_
        walk_at "go"
        refine r_i (by omega) ?_
        obtain ⟨d, hd, ed⟩ := md ((_ : Int) / 8)
        rw [ed]
        exact q d H2 hd b2 ⟨c, cs, i', b', _, a', h2⟩
end
end Lw
set_option Elab.async false
set_option linter.all false
set_option maxRecDepth 100000
set_option maxHeartbeats 4000000
namespace Lw
open PySem PySem.Spec PyProof.Rows L2
local macro_rules | `(tactic| walk_at "h") => `(tactic| first | assumption | (refine (by assumption : Same _ _) _ _ ?_; walk_at "h"))
local macro_rules | `(tactic| walk_at "g1") => `(tactic| first
  | with_reducible refine g_seq ?_ | with_reducible refine g_asg ?_ | with_reducible refine g_name ?_ | with_reducible refine g_drop ?_ | with_reducible refine g_ret ?_ | with_reducible refine g_retN ?_
  | with_reducible refine g_next ?_ | with_reducible refine g_brk ?_ | with_reducible refine g_cont ?_ | with_reducible refine g_if ?_ | ((with_reducible show tVar _ _ _ _); refine ⟨_, rfl, ?_⟩) | with_reducible refine g_c ?_
  | with_reducible refine g_op ?_ | with_reducible refine g_un ?_ | with_reducible refine g_ifE ?_ | with_reducible refine g_test ?_ | with_reducible refine g_B ?_ | with_reducible refine g_and ?_ | with_reducible refine g_or ?_ | with_reducible refine g_not ?_
  | with_reducible refine g_andV ?_ | with_reducible refine g_orV ?_ | with_reducible refine g_notV ?_ | with_reducible refine g_nil ?_ | with_reducible refine g_cons ?_ | with_reducible refine g_cb ?_ | with_reducible refine g_f ?_
  | with_reducible refine g_bl ?_ | with_reducible refine g_blV ?_ | with_reducible refine g_part ?_ | with_reducible refine g_nopart ?_ | with_reducible refine g_sl ?_ | with_reducible refine g_intx ?_
  | with_reducible refine r_i0 ?_ | with_reducible refine r_eqi ?_ | with_reducible refine r_nei ?_ | with_reducible refine r_u ?_
  | with_reducible refine r_isN_non ?_ | with_reducible refine r_isN_ref ?_ | with_reducible refine r_isN_int ?_ | with_reducible refine r_notN_non ?_ | with_reducible refine r_notN_ref ?_
  | with_reducible refine h_lc ?_ | with_reducible refine h_for ?_ | with_reducible refine h_rng1 ?_ | with_reducible refine h_rng2 ?_ | with_reducible refine h_ilist ?_ | with_reducible refine h_lst ?_ | with_reducible refine h_tup ?_
  | with_reducible refine h_fld ?_ | with_reducible refine h_m ?_ | with_reducible refine g_sm ?_ | with_reducible refine g_cm ?_ | with_reducible refine h_mk ?_ | with_reducible refine g_chain ?_ | with_reducible refine g_asgsub ?_ | with_reducible refine g_sfld ?_
  | with_reducible refine g_bm ?_ | with_reducible refine g_bm0 ?_
  | ((with_reducible refine' r_tup0 ?gh ?_); (case gh => walk_at "h")) | ((with_reducible refine' r_tup1 ?gh ?_); (case gh => walk_at "h"))
  | ((with_reducible refine' And.intro (ty_lst ?gh) ?_); (case gh => walk_at "h"))
  | with_reducible refine h_lrg ?_ | with_reducible refine h_rg1 ?_ | with_reducible refine h_rg2 ?_ | with_reducible refine g_int2 ?_ | with_reducible refine h_sfld ?_ | with_reducible refine h_augx rfl ?_ | with_reducible refine h_tru ?_ | with_reducible refine g_ipI ?_ | with_reducible refine h_enum ?_ | with_reducible refine h_enumS ?_ | with_reducible refine h_m1 ?_ | with_reducible refine g_isS ?_
  | with_reducible refine i_true ?_ | with_reducible refine i_false ?_ | with_reducible refine i_nt ?_ | with_reducible refine i_nf ?_)
local macro_rules | `(tactic| walk_at "go") => `(tactic| ((repeat' walk_at "g1"); (try dsimp only)))
section
variable {P : Program} {w : World} {K : PySem.W.Frag} {mg : Str → Option Value} {base : Heap}
theorem sc_law_text : FnScope ["_law_pairs", "_law_words", "_law_node_here", "_law_opened", "_law_closed", "_law_v"] ["_law_pairs"] (defScope s_law_text) := ⟨rfl, rfl, rfl, by decide +kernel, rfl, by decide +kernel, by decide +kernel⟩
theorem bd_law_text : BindsP "_law_text" "_law_text" s_law_text ["_law_pairs"] := fun _ _ _ _ _ _ us hl => match us, hl with | [_], _ => rfl
def sp_law_text : Sp := fun vs H Q _ => ∃ (p : Addr) (ps : Lk.PL) (n : Nat), vs = [.ref p] ∧ PairsAt H p ps ∧ ps.length = n + 2 ∧ n ≤ 60 ∧ ∀ H', Same H H' → Q (.str (textOf n ps)) H'
theorem giv_opn {ps : Lk.PL} {xs : List V} (h : xs.length = ps.length) (a : Nat) (v : Nat → V) : (giv 0 xs.length (opB ps a) v).length = opn ps a := by unfold giv opn; rw [List.length_map, h]
theorem giv_clo {ps : Lk.PL} {xs : List V} (h : xs.length = ps.length) (a : Nat) (v : Nat → V) : (giv 0 xs.length (clB ps a) v).length = clo ps a := by unfold giv clo; rw [List.length_map, h]
set_option maxHeartbeats 4000000 in
theorem ok_law_text (T : Tx K mg) : FnR P w K mg base CX0 1 (He.ga K "_law_text") (sp_law_text ) := by
  refine (T.F_law_text).ok sc_law_text bd_law_text (fun vs H Q E h => ?_) (fun cdv A outer s H vs Q E hr h => ?_)
  · obtain ⟨p, ps, n, rfl, _⟩ := h
    rfl
  · obtain ⟨p, ps, n, rfl, hp, hl, hn, q⟩ := h
    refine ⟨_, (pss_cons (ps_set (i := 1) sc_law_text.nd rfl (by first | exact Or.inl rfl | exact Or.inr rfl) (pe_lst pa_nil)) (pss_cons (ps_for PassesOwn.never rfl (pi_range2 rfl T.n_range (pa_cons pe_int (pa_cons (pe_op op_sub (pe_callB (lenK (K := K) rfl) (by rfl) T.n_len PySem.boot_len (pa_cons (pv 0) pa_nil)) pe_int) pa_nil))) (pg_name (i := 2) sc_law_text.nd rfl (by first | exact Or.inl rfl | exact Or.inr rfl)) (pss_one (ps_if (pt_cmpR op_isN1 (pe_ix (ixl (K := K) rfl) (pv 0) (pv 2) (fun _ _ => rfl)) pe_non (nomark _)) (pss_one (ps_expr (bmK (K := K) rfl PySem.F.plainAttrs_list PySem.F.slot_list_append PySem.F.type_list_append mt_append (pv 1) (pa_cons pe_str pa_nil)))) (pss_cons (ps_set (i := 3) sc_law_text.nd rfl (by first | exact Or.inl rfl | exact Or.inr rfl) (pe_callB (lenK (K := K) rfl) (by rfl) T.n_len PySem.boot_len (pa_cons (pe_lc (own := [("_law_v", 5)]) (g := gName 5) rfl sc_law_text.nd (pilK (K := K) rfl (pv 0)) (blkOk_by (own := [("_law_v", 5)]) (N := ["_law_pairs", "_law_words", "_law_node_here", "_law_opened", "_law_closed", "_law_v"]) (sc := defScope s_law_text) (by decide +kernel)) (fun _ _ _ _ _ => pg_name (i := 5) sc_law_text.nd rfl (Or.inl rfl)) (fun _ _ _ _ _ => (pts_one (PW.pt (pw_and (pt_cmpR op_notN1 (pv 5) pe_non (nomark _)) (pw_and1 (pt_cmpR op_eq (pe_ix (ixt (K := K) rfl) (pv 5) pe_int (fun _ _ => rfl)) (pe_op op_sub (pv 2) pe_int) (nomark _))))))) (fun _ _ _ _ _ => (pv 5))) pa_nil))) (pss_cons (ps_set (i := 4) sc_law_text.nd rfl (by first | exact Or.inl rfl | exact Or.inr rfl) (pe_callB (lenK (K := K) rfl) (by rfl) T.n_len PySem.boot_len (pa_cons (pe_lc (own := [("_law_v", 5)]) (g := gName 5) rfl sc_law_text.nd (pilK (K := K) rfl (pv 0)) (blkOk_by (own := [("_law_v", 5)]) (N := ["_law_pairs", "_law_words", "_law_node_here", "_law_opened", "_law_closed", "_law_v"]) (sc := defScope s_law_text) (by decide +kernel)) (fun _ _ _ _ _ => pg_name (i := 5) sc_law_text.nd rfl (Or.inl rfl)) (fun _ _ _ _ _ => (pts_one (PW.pt (pw_and (pt_cmpR op_notN1 (pv 5) pe_non (nomark _)) (pw_and1 (pt_cmpR op_eq (pe_ix (ixt (K := K) rfl) (pv 5) pe_int (fun _ _ => rfl)) (pe_op op_add (pv 2) pe_int) (nomark _))))))) (fun _ _ _ _ _ => (pv 5))) pa_nil))) (pss_one (ps_expr (bmK (K := K) rfl PySem.F.plainAttrs_list PySem.F.slot_list_append PySem.F.type_list_append mt_append (pv 1) (pa_cons (pe_op opCat (pe_op opCat (pe_op op_mulS pe_str (pv 3)) pe_str) (pe_op op_mulS pe_str (pv 4))) pa_nil))))))))) (pss_one (ps_ret (joinK (K := K) rfl pe_str (pv 1)))))), ?_⟩
    walk_at "go"
    refine a_lst (xs := []) (fun wp H1 hwp e1 h1 => ?_) (Nat.zero_le _)
    walk_at "go"
    refine a_plen (hp.mono e1) ?_
    walk_at "go"
    refine a_r2 1 n rfl (by omega) (by omega) ?_
    refine fo_rN (fun i σ H' => ∃ (v2 v3 v4 v5 : Option V), σ = [some (.ref p), some (.ref wp), v2, v3, v4, none] ∧ Same H H' ∧ H' wp = some (.lst ((List.range' 1 i).map fun x => V.str (mkS (wordL ps x)))))
      ⟨none, none, none, none, rfl, e1, h1⟩ ?_ ?_
    · rintro i σ H2 hi ⟨v2, v3, v4, v5, rfl, e2, h2⟩
      have hp2 := hp.mono e2
      have b1 := opn_le ps (1 + i - 1)
      have b2 := clo_le ps (1 + i + 1)
      walk_at "go"
      refine e_isN hp2 (by omega) ?_
      walk_at "go"
      refine i_b (fun eb => ?_) (fun eb => ?_)
      · walk_at "go"
        rw [s_dot]
        refine a_app h2 (by rw [List.length_map, List.length_range']; omega) fun H9 hw9 b9 => ?_
        refine ⟨_, _, _, none, rfl, Same.but e2 hwp b9, ?_⟩
        rw [hw9, List.range'_concat, List.map_append, Nat.one_mul]
        simp only [List.map_cons, List.map_nil, wordL_in (inB_iff eb)]
      · obtain ⟨a, b, e⟩ := inB_some eb
        obtain ⟨xs, hx1, hx2, hx3⟩ := hp2.ex
        walk_at "go"
        refine a_il hx1 ?_
        refine l_list (opB ps (1 + i - 1)) (fun k => xs.getD k .non) (SqL.of hx1) (by omega) (fun _ => rfl) (fun k x H3 hk e3 R c => ?_) (fun k x H3 hk e3 hf R c => ?_) (fun D H3 hD e3 hd => ?_)
        · have hkl := (List.getElem?_eq_some_iff.mp hk).1
          obtain ⟨v, hv, pv⟩ := hx3 k _ (Lk.at_get (by omega))
          rw [hk] at hv
          cases hv
          have c := c H3 (Same.refl _)
          rcases pv with ⟨ea, rfl⟩ | ⟨ca, cb, t, ea, rfl, ht⟩
          · rw [opB_n ea] at c
            walk_at "go"
            exact c
          · rw [opB_s ea] at c
            have ht3 := e3 _ _ ht
            walk_at "go"
            have ee : decide ((ca : Int) = ((1 + i : Nat) : Int) - 1) = decide (ca = 1 + i - 1) := by
              by_cases z : ca = 1 + i - 1
              · rw [decide_eq_true z, decide_eq_true (by omega)]
              · rw [decide_eq_false z, decide_eq_false (by omega)]
            rw [ee]
            exact c
        · have ev : xs.getD k .non = x := by rw [List.getD_eq_getElem?_getD, hk]; rfl
          rw [ev] at c
          walk_at "go"
          exact c H3 (Same.refl _)
        walk_at "go"
        refine a_len hd ?_
        rw [giv_opn hx2]
        walk_at "go"
        have hx1' := e3 _ _ hx1
        refine a_il hx1' ?_
        refine l_list (clB ps (1 + i + 1)) (fun k => xs.getD k .non) (SqL.of hx1') (by omega) (fun _ => rfl) (fun k x H4 hk e4 R c => ?_) (fun k x H4 hk e4 hf R c => ?_) (fun D2 H4 hD2 e4 hd2 => ?_)
        · have hkl := (List.getElem?_eq_some_iff.mp hk).1
          obtain ⟨v, hv, pv⟩ := hx3 k _ (Lk.at_get (by omega))
          rw [hk] at hv
          cases hv
          have c := c H4 (Same.refl _)
          rcases pv with ⟨ea, rfl⟩ | ⟨ca, cb, t, ea, rfl, ht⟩
          · rw [clB_n ea] at c
            walk_at "go"
            exact c
          · rw [clB_s ea] at c
            have ht3 := e4 _ _ (e3 _ _ ht)
            walk_at "go"
            have ee : decide ((cb : Int) = ((1 + i : Nat) : Int) + 1) = decide (cb = 1 + i + 1) := by
              by_cases z : cb = 1 + i + 1
              · rw [decide_eq_true z, decide_eq_true (by omega)]
              · rw [decide_eq_false z, decide_eq_false (by omega)]
            rw [ee]
            exact c
        · have ev : xs.getD k .non = x := by rw [List.getD_eq_getElem?_getD, hk]; rfl
          rw [ev] at c
          walk_at "go"
          exact c H4 (Same.refl _)
        walk_at "go"
        refine a_len hd2 ?_
        rw [giv_clo hx2]
        walk_at "go"
        rw [s_open, s_star, s_close]
        refine a_mul (by omega) ?_
        walk_at "go"
        refine a_cat (by rw [List.length_replicate]; simp only [List.length_singleton]; omega) ?_
        walk_at "go"
        refine a_mul (by omega) ?_
        walk_at "go"
        refine a_cat (by rw [List.length_append, List.length_replicate, List.length_replicate]; simp only [List.length_singleton]; omega) ?_
        have h4 := e4 _ _ (e3 _ _ h2)
        walk_at "go"
        refine a_app h4 (by rw [List.length_map, List.length_range']; omega) fun H9 hw9 b9 => ?_
        refine ⟨_, _, _, none, rfl, Same.but ((e2.trans e3).trans e4) hwp b9, ?_⟩
        rw [hw9, List.range'_concat, List.map_append, Nat.one_mul]
        simp only [List.map_cons, List.map_nil, wordL_out e]
    · rintro σ H2 ⟨v2, v3, v4, v5, rfl, e2, h2⟩
      walk_at "go"
      exact a_text hl hn h2 (q H2 e2)
theorem sc_law_rows : FnScope ["_law_told", "_law_due", "_law_k"] ["_law_told", "_law_due"] (defScope s_law_rows) := ⟨rfl, rfl, rfl, by decide +kernel, rfl, by decide +kernel, by decide +kernel⟩
theorem bd_law_rows : BindsP "_law_rows" "_law_rows" s_law_rows ["_law_told", "_law_due"] := fun _ _ _ _ _ _ us hl => match us, hl with | [_, _], _ => rfl
def sp_law_rows : Sp := fun vs H Q _ => ∃ (a b : Addr) (ns : List Nat), vs = [.ref a, .ref b] ∧ H a = some (.lst (intsV ns)) ∧ H b = some (.lst (intsV ns)) ∧ ns.length ≤ 1000 ∧ Q (.bl true) H
set_option maxHeartbeats 4000000 in
theorem ok_law_rows (T : Tx K mg) : FnR P w K mg base CX0 2 (He.ga K "_law_rows") (sp_law_rows ) := by
  refine (T.F_law_rows).ok sc_law_rows bd_law_rows (fun vs H Q E h => ?_) (fun cdv A outer s H vs Q E hr h => ?_)
  · obtain ⟨a, b, ns, rfl, _⟩ := h
    rfl
  · obtain ⟨a, b, ns, rfl, ha, hb, hl, q⟩ := h
    refine ⟨_, (pss_cons (ps_if (PW.pt (pw_or (pt_not (pt_val (pe_callB (isiK (K := K) rfl) (by rfl) T.n_isinstance (by decide +kernel) (pa_cons (pv 0) (pa_cons (pe_bltn (v := .ty "list") (u := .type "list") (by rfl) T.n_list (by decide +kernel) rfl) pa_nil))))) (pw_or1 (pt_cmpR op_ne (pe_callB (lenK (K := K) rfl) (by rfl) T.n_len PySem.boot_len (pa_cons (pv 0) pa_nil)) (pe_callB (lenK (K := K) rfl) (by rfl) T.n_len PySem.boot_len (pa_cons (pv 1) pa_nil)) (nomark _))))) (pss_one (ps_ret pe_bl)) pss_nil) (pss_cons (ps_for PassesOwn.never rfl (pi_range1 rfl T.n_range (pa_cons (pe_callB (lenK (K := K) rfl) (by rfl) T.n_len PySem.boot_len (pa_cons (pv 1) pa_nil)) pa_nil)) (pg_name (i := 2) sc_law_rows.nd rfl (by first | exact Or.inl rfl | exact Or.inr rfl)) (pss_one (ps_if (PW.pt (pw_or (pt_not (pt_val (pe_f (ok_law_is_integer (K := K) T) (hr.mono (by decide)) rfl T.g_law_is_integer T.k_law_is_integer pass0 (pa_cons (pe_ix (ixl (K := K) rfl) (pv 0) (pv 2) (fun _ _ => rfl)) pa_nil)))) (pw_or1 (pt_cmpR op_ne (pe_ix (ixl (K := K) rfl) (pv 0) (pv 2) (fun _ _ => rfl)) (pe_ix (ixl (K := K) rfl) (pv 1) (pv 2) (fun _ _ => rfl)) (nomark _))))) (pss_one (ps_ret pe_bl)) pss_nil))) (pss_one (ps_ret pe_bl)))), ?_⟩
    walk_at "go"
    refine isi_lst ha ?_
    walk_at "go"
    refine a_len ha ?_
    walk_at "go"
    refine a_len hb ?_
    walk_at "go"
    refine n_yes rfl ?_
    walk_at "go"
    refine a_len hb ?_
    walk_at "go"
    rw [intsV_len]
    refine a_r1 ns.length rfl (by omega) ?_
    refine fo_rN (fun i σ H' => ∃ (v2 : Option V), H' = H ∧ σ = [some (.ref a), some (.ref b), v2]) ⟨none, rfl, rfl⟩ ?_ ?_
    · rintro i σ H2 hi ⟨v2, rfl, rfl⟩
      rw [Nat.zero_add]
      obtain ⟨z, hz⟩ : ∃ z, ns[i]? = some z := ⟨ns[i], List.getElem?_eq_getElem hi⟩
      walk_at "go"
      refine r_ixl ha (intsV_get hz) ?_
      walk_at "go"
      refine ⟨_, rfl, ?_⟩
      walk_at "go"
      refine r_ixl ha (intsV_get hz) ?_
      walk_at "go"
      refine r_ixl hb (intsV_get hz) ?_
      walk_at "go"
      refine n_yes rfl ?_
      walk_at "go"
      exact ⟨_, rfl, rfl⟩
    · rintro σ H2 ⟨v2, rfl, rfl⟩
      walk_at "go"
      exact q
theorem sc_law_quotient : FnScope ["_law_pairs", "_law_outs", "_law_above", "_law_under", "_law_k", "_law_v"] ["_law_pairs"] (defScope s_law_quotient) := ⟨rfl, rfl, rfl, by decide +kernel, rfl, by decide +kernel, by decide +kernel⟩
theorem bd_law_quotient : BindsP "_law_quotient" "_law_quotient" s_law_quotient ["_law_pairs"] := fun _ _ _ _ _ _ us hl => match us, hl with | [_], _ => rfl
def sp_law_quotient : Sp := fun vs H Q _ => ∃ (p : Addr) (ps : Lk.PL) (n : Nat), vs = [.ref p] ∧ PairsAt H p ps ∧ Lk.OK n ps ∧ n ≤ 60 ∧ ∀ H', Same H H' → Q (.int (hookZ n ps)) H'
theorem outs_eq {n : Nat} {ps : Lk.PL} (o : Lk.OK n ps) : (List.range' 0 (n + 2)).filter (outB ps) = outsN n ps := filt_ends (outB_f o.h0) (outB_f o.hn)
set_option maxHeartbeats 4000000 in
theorem ok_law_quotient (T : Tx K mg) : FnR P w K mg base CX0 1 (He.ga K "_law_quotient") (sp_law_quotient ) := by
  refine (T.F_law_quotient).ok sc_law_quotient bd_law_quotient (fun vs H Q E h => ?_) (fun cdv A outer s H vs Q E hr h => ?_)
  · obtain ⟨p, ps, n, rfl, _⟩ := h
    rfl
  · obtain ⟨p, ps, n, rfl, hp, o, hn, q⟩ := h
    have hl := o.len
    have mem : ∀ x, x ∈ outsN n ps → Lk.at_ ps x ≠ none := fun x => (outsN_mem o).mp
    have hlen := outsN_len n ps
    have wd : ∀ x, x ∈ outsN n ps → 1 ≤ Lk.lR ps x - Lk.lL ps x - 1 ∧ Lk.lR ps x - Lk.lL ps x - 1 ≤ 64 := fun x hx => by
      obtain ⟨a, b, e⟩ := Lk.ne_none (mem x hx)
      rw [Lk.lR_some e, Lk.lL_some e]
      have := o.rng e
      omega
    refine ⟨_, (pss_cons (ps_setLc (own := [("_law_v", 5)]) (g := gName 5) (i := 1) rfl sc_law_quotient.nd rfl rfl (sw_true rfl rfl rfl (by decide +kernel)) (pi_range1 rfl T.n_range (pa_cons (pe_callB (lenK (K := K) rfl) (by rfl) T.n_len PySem.boot_len (pa_cons (pv 0) pa_nil)) pa_nil)) (blkOk_by (own := [("_law_v", 5)]) (N := ["_law_pairs", "_law_outs", "_law_above", "_law_under", "_law_k", "_law_v"]) (sc := defScope s_law_quotient) (by decide +kernel)) (fun _ _ _ _ _ => pg_name (i := 5) sc_law_quotient.nd rfl (Or.inl rfl)) (fun _ _ _ _ _ => (pts_one (pt_cmpR op_notN1 (pe_ix (ixl (K := K) rfl) (pv 0) (pv 5) (fun _ _ => rfl)) pe_non (nomark _)))) (fun _ _ _ _ _ => (pv 5))) (pss_cons (ps_set (i := 2) sc_law_quotient.nd rfl (by first | exact Or.inl rfl | exact Or.inr rfl) pe_int) (pss_cons (ps_set (i := 3) sc_law_quotient.nd rfl (by first | exact Or.inl rfl | exact Or.inr rfl) pe_int) (pss_cons (ps_for PassesOwn.never rfl (pi_range1 rfl T.n_range (pa_cons (pe_callB (lenK (K := K) rfl) (by rfl) T.n_len PySem.boot_len (pa_cons (pv 1) pa_nil)) pa_nil)) (pg_name (i := 4) sc_law_quotient.nd rfl (by first | exact Or.inl rfl | exact Or.inr rfl)) (pss_cons (ps_set (i := 2) sc_law_quotient.nd rfl (by first | exact Or.inl rfl | exact Or.inr rfl) (pe_op op_mul (pv 2) (pe_op op_add (pv 4) pe_int))) (pss_one (ps_set (i := 3) sc_law_quotient.nd rfl (by first | exact Or.inl rfl | exact Or.inr rfl) (pe_op op_mul (pv 3) (pe_op op_sub (pe_op op_sub (pe_ix (ixt (K := K) rfl) (pe_ix (ixl (K := K) rfl) (pv 0) (pe_ix (ixl (K := K) rfl) (pv 1) (pv 4) (fun _ _ => rfl)) (fun _ _ => rfl)) pe_int (fun _ _ => rfl)) (pe_ix (ixt (K := K) rfl) (pe_ix (ixl (K := K) rfl) (pv 0) (pe_ix (ixl (K := K) rfl) (pv 1) (pv 4) (fun _ _ => rfl)) (fun _ _ => rfl)) pe_int (fun _ _ => rfl))) pe_int)))))) (pss_one (ps_ret (pe_op op_fdivW (pv 2) (pv 3)))))))), ?_⟩
    walk_at "go"
    refine a_plen hp ?_
    walk_at "go"
    refine a_r1 ps.length rfl (by omega) ?_
    refine l_rN (outB ps) (fun i => .int (i : Int)) (by omega) (fun _ => rfl) (fun i H1 _ hi e R k => ?_) (fun i H1 _ hi e hf R k => ?_) (fun D H1 hD e1 hd => ?_)
    · walk_at "go"
      exact e_notN (hp.mono e) (by omega) ⟨_, rfl, k H1 (Same.refl _)⟩
    · walk_at "go"
      exact k H1 (Same.refl _)
    have hd : H1 D = some (.lst (intsV (outsN n ps))) := by rw [← outs_eq o, ← hl]; exact hd
    have hp1 := hp.mono e1
    walk_at "go"
    refine a_len hd ?_
    walk_at "go"
    rw [intsV_len]
    refine a_r1 (outsN n ps).length rfl (by omega) ?_
    refine fo_rN (fun i σ H' => ∃ (v4 : Option V), H' = H1 ∧ σ = [some (.ref p), some (.ref D), some (.int (Builtin.Math.factorialNat i : Nat)), some (.int (Lk.prodW ps ((outsN n ps).take i) : Nat)), v4, none]) ⟨none, rfl, rfl⟩ ?_ ?_
    · rintro i σ H2 hi ⟨v4, rfl, rfl⟩
      rw [Nat.zero_add]
      obtain ⟨y, hy⟩ : ∃ z, (outsN n ps)[i]? = some z := ⟨(outsN n ps)[i], List.getElem?_eq_getElem hi⟩
      have hy2 := List.mem_of_getElem? hy
      have hout := mem y hy2
      obtain ⟨a, b, e⟩ := Lk.ne_none hout
      have r := o.rng e
      walk_at "go"
      refine r_i (.inr ⟨by omega, by omega⟩) ?_
      walk_at "go"
      refine r_ixl hd (intsV_get hy) ?_
      walk_at "go"
      refine e_snd hp1 e ?_
      walk_at "go"
      refine r_ixl hd (intsV_get hy) ?_
      walk_at "go"
      refine e_fst hp1 e ?_
      walk_at "go"
      refine r_i (.inr ⟨by omega, by omega⟩) ?_
      refine ⟨some (.int (i : Int)), rfl, ?_⟩
      rw [take_succ hy, Lk.prodW_snoc, PySem.W.mc_fac_succ, Lk.lR_some e, Lk.lL_some e]
      have ea : ((Builtin.Math.factorialNat i : Nat) : Int) * ((i : Int) + 1) = ((Builtin.Math.factorialNat i * (i + 1) : Nat) : Int) := by
        rw [Int.natCast_mul]
        rfl
      have eb : ((Lk.prodW ps ((outsN n ps).take i) : Nat) : Int) * ((b : Int) - (a : Int) - 1) = ((Lk.prodW ps ((outsN n ps).take i) * (b - a - 1) : Nat) : Int) := by
        rw [Int.natCast_mul]
        congr 1
        omega
      rw [ea, eb]
      rfl
    · rintro σ H2 ⟨v4, rfl, rfl⟩
      rw [List.take_length]
      walk_at "go"
      refine r_i (cdiv (Lk.prodW_pos fun x hx => (wd x hx).1) (Nat.le_trans (Lk.prodW_le fun x hx => (wd x hx).2) (Nat.pow_le_pow_right (by decide) (by omega)))) ?_
      exact q H2 e1
theorem sc_law_removal : FnScope ["_law_pairs", "_law_widths", "_law_v", "_law_entry"] ["_law_pairs"] (defScope s_law_removal) := ⟨rfl, rfl, rfl, by decide +kernel, rfl, by decide +kernel, by decide +kernel⟩
theorem bd_law_removal : BindsP "_law_removal" "_law_removal" s_law_removal ["_law_pairs"] := fun _ _ _ _ _ _ us hl => match us, hl with | [_], _ => rfl
def sp_law_removal : Sp := fun vs H Q _ => ∃ (p : Addr) (ps : Lk.PL) (n : Nat), vs = [.ref p] ∧ PairsAt H p ps ∧ Lk.OK n ps ∧ n ≤ 60 ∧ ∀ l H' rs, H l = none → Same H H' → H' l = some (.lst (intsV rs)) → Lk.Ord n ps rs → Q (.ref l) H'
set_option maxHeartbeats 4000000 in
theorem ok_law_removal (T : Tx K mg) : FnR P w K mg base CX0 1 (He.ga K "_law_removal") (sp_law_removal ) := by
  refine (T.F_law_removal).ok sc_law_removal bd_law_removal (fun vs H Q E h => ?_) (fun cdv A outer s H vs Q E hr h => ?_)
  · obtain ⟨p, ps, n, rfl, _⟩ := h
    rfl
  · obtain ⟨p, ps, n, rfl, hp, o, hn, q⟩ := h
    have hl := o.len
    refine ⟨_, (pss_cons (ps_setLc (own := [("_law_v", 2)]) (g := gName 2) (i := 1) rfl sc_law_removal.nd rfl rfl (sw_true rfl rfl rfl (by decide +kernel)) (pi_range1 rfl T.n_range (pa_cons (pe_callB (lenK (K := K) rfl) (by rfl) T.n_len PySem.boot_len (pa_cons (pv 0) pa_nil)) pa_nil)) (blkOk_by (own := [("_law_v", 2)]) (N := ["_law_pairs", "_law_widths", "_law_v", "_law_entry"]) (sc := defScope s_law_removal) (by decide +kernel)) (fun _ _ _ _ _ => pg_name (i := 2) sc_law_removal.nd rfl (Or.inl rfl)) (fun _ _ _ _ _ => (pts_one (pt_cmpR op_notN1 (pe_ix (ixl (K := K) rfl) (pv 0) (pv 2) (fun _ _ => rfl)) pe_non (nomark _)))) (fun _ _ _ _ _ => (pe_tup (pa_cons (pe_op op_sub (pe_ix (ixt (K := K) rfl) (pe_ix (ixl (K := K) rfl) (pv 0) (pv 2) (fun _ _ => rfl)) pe_int (fun _ _ => rfl)) (pe_ix (ixt (K := K) rfl) (pe_ix (ixl (K := K) rfl) (pv 0) (pv 2) (fun _ _ => rfl)) pe_int (fun _ _ => rfl))) (pa_cons (pv 2) pa_nil))))) (pss_one (ps_ret (pe_lc (own := [("_law_entry", 3)]) (g := gName 3) rfl sc_law_removal.nd (pilK (K := K) rfl (pe_callB (sortK (K := K) rfl) (by rfl) T.n_sorted (by decide +kernel) (pa_cons (pv 1) pa_nil))) (blkOk_by (own := [("_law_entry", 3)]) (N := ["_law_pairs", "_law_widths", "_law_v", "_law_entry"]) (sc := defScope s_law_removal) (by decide +kernel)) (fun _ _ _ _ _ => pg_name (i := 3) sc_law_removal.nd rfl (Or.inl rfl)) (fun _ _ _ _ _ => pts_nil) (fun _ _ _ _ _ => (pe_ix (ixt (K := K) rfl) (pv 3) pe_int (fun _ _ => rfl))))))), ?_⟩
    walk_at "go"
    refine a_plen hp ?_
    walk_at "go"
    refine a_r1 ps.length rfl (by omega) ?_
    refine l_rT (outB ps) (WEl ps) WEl.mono (by omega) (fun _ => rfl) (fun i H1 _ hi e R k => ?_) (fun i H1 _ hi e hf R k => ?_) (fun D H1 acc hD e1 hd hacc => ?_)
    · walk_at "go"
      exact e_notN (hp.mono e) (by omega) ⟨_, rfl, k H1 (Same.refl _)⟩
    · obtain ⟨a, b, ei⟩ := outB_some hf
      have hp1 := hp.mono e
      walk_at "go"
      refine e_snd hp1 ei ?_
      walk_at "go"
      refine e_fst hp1 ei ?_
      walk_at "go"
      refine a_tup fun t H2 ht e2 ht2 => ?_
      exact k _ H2 e2 ⟨t, a, b, rfl, ei, ht2⟩
    rw [hl, outs_eq o] at hacc
    walk_at "go"
    refine ⟨D, acc, keyP H1, rfl, SqL.of hd, fun x hx => ?_, fun ys l hs hb hl1 => ?_⟩
    · obtain ⟨i, _, t, a, b, rfl, _, ht⟩ := hacc.mem x hx
      refine ⟨t, rfl, ?_⟩
      rw [keyP_eq ht]
      exact ht
    have ord := sorted_ord o hacc hs hb.perm
    have hmem : ∀ x ∈ ys, ∃ t a b i, x = .ref t ∧ H1 t = some (.tup [.int ((b : Int) - (a : Int)), .int ((i : Nat) : Int)]) := fun x hx => by
      obtain ⟨i, _, t, a, b, h1, _, h3⟩ := hacc.mem x (hb.perm.mem_iff.mp hx)
      exact ⟨t, a, b, i, h1, h3⟩
    have hlen : ys.length ≤ n := by
      have h1 := hb.perm.length_eq
      have h2 := hacc.len
      have h3 := outsN_len n ps
      omega
    have e2 : Same H1 (upd H1 l (.lst ys)) := Same.new hl1
    have h2 : upd H1 l (.lst ys) l = some (.lst ys) := upd_same
    generalize upd H1 l (.lst ys) = H2 at e2 h2
    refine a_il h2 ?_
    refine l_list (fun _ => true) (fun k => .int (((keyP H1 (ys.getD k .non)).2.toNat : Nat) : Int)) (SqL.of h2) (by omega) (fun _ => rfl) (fun k x H3 hk e3 R c => ?_) (fun k x H3 hk e3 hf R c => ?_) (fun D2 H3 hD2 e3 hd3 => ?_)
    · walk_at "go"
      exact c H3 (Same.refl _)
    · obtain ⟨t, a, b, i, rfl, ht⟩ := hmem x (List.mem_of_getElem? hk)
      have ht3 := e3 _ _ (e2 _ _ ht)
      have ev : ys.getD k .non = V.ref t := by rw [List.getD_eq_getElem?_getD, hk]; rfl
      rw [ev, keyP_eq ht] at c
      walk_at "go"
      exact c H3 (Same.refl _)
    refine q D2 H3 _ (e1.free (e2.free hD2)) ((e1.trans e2).trans e3) ?_ ord
    rw [hd3]
    congr 2
    unfold giv intsV
    rw [List.filter_eq_self.mpr (fun _ _ => rfl), List.map_map]
    apply List.ext_getElem
    · simp
    · intro k h1 h2
      have hk : k < ys.length := by simpa using h2
      simp only [List.getElem_map, List.getElem_range', Function.comp]
      rw [Nat.zero_add, Nat.one_mul, List.getD_eq_getElem?_getD, List.getElem?_eq_getElem hk]
      rfl
end
end Lw
set_option Elab.async false
set_option linter.all false
set_option maxRecDepth 100000
set_option maxHeartbeats 4000000
namespace Lw
open PySem PySem.Spec PyProof.Rows L2
local macro_rules | `(tactic| walk_at "h") => `(tactic| first | assumption | (refine (by assumption : Same _ _) _ _ ?_; walk_at "h"))
local macro_rules | `(tactic| walk_at "g1") => `(tactic| first
  | with_reducible refine g_seq ?_ | with_reducible refine g_asg ?_ | with_reducible refine g_name ?_ | with_reducible refine g_drop ?_ | with_reducible refine g_ret ?_ | with_reducible refine g_retN ?_
  | with_reducible refine g_next ?_ | with_reducible refine g_brk ?_ | with_reducible refine g_cont ?_ | with_reducible refine g_if ?_ | ((with_reducible show tVar _ _ _ _); refine ⟨_, rfl, ?_⟩) | with_reducible refine g_c ?_
  | with_reducible refine g_op ?_ | with_reducible refine g_un ?_ | with_reducible refine g_ifE ?_ | with_reducible refine g_test ?_ | with_reducible refine g_B ?_ | with_reducible refine g_and ?_ | with_reducible refine g_or ?_ | with_reducible refine g_not ?_
  | with_reducible refine g_andV ?_ | with_reducible refine g_orV ?_ | with_reducible refine g_notV ?_ | with_reducible refine g_nil ?_ | with_reducible refine g_cons ?_ | with_reducible refine g_cb ?_ | with_reducible refine g_f ?_
  | with_reducible refine g_bl ?_ | with_reducible refine g_blV ?_ | with_reducible refine g_part ?_ | with_reducible refine g_nopart ?_ | with_reducible refine g_sl ?_ | with_reducible refine g_intx ?_
  | with_reducible refine r_i0 ?_ | with_reducible refine r_eqi ?_ | with_reducible refine r_nei ?_ | with_reducible refine r_u ?_
  | with_reducible refine r_isN_non ?_ | with_reducible refine r_isN_ref ?_ | with_reducible refine r_isN_int ?_ | with_reducible refine r_notN_non ?_ | with_reducible refine r_notN_ref ?_
  | with_reducible refine h_lc ?_ | with_reducible refine h_for ?_ | with_reducible refine h_rng1 ?_ | with_reducible refine h_rng2 ?_ | with_reducible refine h_ilist ?_ | with_reducible refine h_lst ?_ | with_reducible refine h_tup ?_
  | with_reducible refine h_fld ?_ | with_reducible refine h_m ?_ | with_reducible refine g_sm ?_ | with_reducible refine g_cm ?_ | with_reducible refine h_mk ?_ | with_reducible refine g_chain ?_ | with_reducible refine g_asgsub ?_ | with_reducible refine g_sfld ?_
  | with_reducible refine g_bm ?_ | with_reducible refine g_bm0 ?_
  | ((with_reducible refine' r_tup0 ?gh ?_); (case gh => walk_at "h")) | ((with_reducible refine' r_tup1 ?gh ?_); (case gh => walk_at "h"))
  | ((with_reducible refine' And.intro (ty_lst ?gh) ?_); (case gh => walk_at "h"))
  | with_reducible refine h_lrg ?_ | with_reducible refine h_rg1 ?_ | with_reducible refine h_rg2 ?_ | with_reducible refine g_int2 ?_ | with_reducible refine h_sfld ?_ | with_reducible refine h_augx rfl ?_ | with_reducible refine h_tru ?_ | with_reducible refine g_ipI ?_ | with_reducible refine h_enum ?_ | with_reducible refine h_enumS ?_ | with_reducible refine h_m1 ?_ | with_reducible refine g_isS ?_ | with_reducible refine h_m0 ?_ | with_reducible refine h_mS ?_ | with_reducible refine h_nodeX ?_ | with_reducible refine h_cval ?_
  | with_reducible refine i_true ?_ | with_reducible refine i_false ?_ | with_reducible refine i_nt ?_ | with_reducible refine i_nf ?_)
local macro_rules | `(tactic| walk_at "go") => `(tactic| ((repeat' walk_at "g1"); (try dsimp only)))
section
variable {P : Program} {w : World} {K : PySem.W.Frag} {mg : Str → Option Value} {base : Heap}
theorem sc_law_asked : FnScope ["_law_forest_here", "_law_node_here", "_law_way", "node_told"] ["_law_forest_here", "_law_node_here", "_law_way"] (defScope s_law_asked) := ⟨rfl, rfl, rfl, by decide +kernel, rfl, by decide +kernel, by decide +kernel⟩
theorem bd_law_asked : BindsP "_law_asked" "_law_asked" s_law_asked ["_law_forest_here", "_law_node_here", "_law_way"] := fun _ _ _ _ _ _ us hl => match us, hl with | [_, _, _], _ => rfl
def askD (K : PySem.W.Frag) (z : Int) (Q : VK) (H : Hp) : Prop := ∀ p H', H p = none → Same H H' → H' p = some (.tup [.int 1, .int z]) → Q (.ref p) H'
def sp_law_asked (K : PySem.W.Frag) : Sp := fun vs H Q _ => ∃ (f : Addr) (n way : Nat) (ps : Lk.PL) (z : Int), vs = [.ref f, .int z, .int (way : Int)] ∧ ForestAt K H f n ps ∧ Lk.OK n ps ∧ n ≤ 60 ∧
  (isOutZ n ps z = false → ∀ p H', H p = none → Same H H' → H' p = some (.tup [.int 1, .int z]) → Q (.ref p) H') ∧
  (isOutZ n ps z = true → way = 0 → ∀ p H', H p = none → Same H H' → H' p = some (.tup [.int 0, .int (Lk.par ps z.toNat : Int)]) → Q (.ref p) H') ∧
  (isOutZ n ps z = true → way = 1 → ∀ p r H', H p = none → H r = none → Same H H' → H' p = some (.tup [.int 0, .ref r]) → H' r = some (.lst (intsV (Lk.chain ps z.toNat))) → Q (.ref p) H') ∧
  (isOutZ n ps z = true → 2 ≤ way → ∀ p r H', H p = none → H r = none → Same H H' → H' p = some (.tup [.int 0, .ref r]) → H' r = some (.lst (intsV (belowL ps z.toNat))) → Q (.ref p) H')
set_option maxHeartbeats 4000000 in
theorem ok_law_asked (T : Tx K mg) (B : Bx P K mg) : FnR P w K mg base CX0 7 (He.ga K "_law_asked") (sp_law_asked K) := by
  refine (T.F_law_asked).ok sc_law_asked bd_law_asked (fun vs H Q E h => ?_) (fun cdv A outer s H vs Q E hr h => ?_)
  · obtain ⟨f, n, way, ps, z, rfl, _⟩ := h
    rfl
  · obtain ⟨f, n, way, ps, z, rfl, hF, o, hn, q0, q1, q2, q3⟩ := h
    refine ⟨_, pss_one (ps_try_as (i := 3) (Wout := fun _ _ _ _ => False) rfl rfl sc_law_asked.nd rfl rfl ⟨rfl, by decide, Or.inl B.g_BadNode⟩ takes0
      (fun W pn xe tk _ => (pss_cons (ps_if (pt_cmpR op_eq (pv 2) pe_int (nomark _)) (pss_one (ps_ret (pe_tup (pa_cons pe_int (pa_cons (pe_mS (pv 0) T.cForest T.mForest_parent (ok_Forest_parent (K := K) T B) (hr.mono (by decide)) (fun σ => passAt tk σ) (pa_cons (pv 1) pa_nil)) pa_nil))))) pss_nil)
        (pss_cons (ps_if (pt_cmpR op_eq (pv 2) pe_int (nomark _)) (pss_one (ps_ret (pe_tup (pa_cons pe_int (pa_cons (pe_mS (pv 0) T.cForest T.mForest_chain (ok_Forest_chain (K := K) T B) (hr.mono (by decide)) (fun σ => passAt tk σ) (pa_cons (pv 1) pa_nil)) pa_nil))))) pss_nil)
        (pss_one (ps_ret (pe_tup (pa_cons pe_int (pa_cons (pe_mS (pv 0) T.cForest T.mForest_below (ok_Forest_below (K := K) T B) (hr.mono (by decide)) (fun σ => passAt tk σ) (pa_cons (pv 1) pa_nil)) pa_nil))))))))
      (fun a oe cls d pn hz hf => (pss_cons (ps_if (PW.pt (pw_or (pt_val (pe_callB (call_isD B.exc hz hf) (by rfl) T.n_isinstance (by decide +kernel) (pa_cons (pv 3) (pa_cons (pe_glob (v := V.ref (He.ga K "LogError")) rfl B.g_LogError rfl) pa_nil)))) (pw_or1 (pt_not (pt_val (pe_callB (call_isD B.exc hz hf) (by rfl) T.n_isinstance (by decide +kernel) (pa_cons (pv 3) (pa_cons (pe_glob (v := V.ref (He.ga K "LinkError")) rfl B.g_LinkError rfl) pa_nil))))))))
        (pss_one (ps_ret (pe_tup (pa_cons pe_int (pa_cons pe_int pa_nil))))) pss_nil) (pss_one (ps_ret (pe_tup (pa_cons pe_int (pa_cons (pe_nodeX B.txt hz hf (pv 3)) pa_nil)))))))), ?_⟩
    obtain ⟨fI, cc, cda, BT⟩ := B.txt
    walk_at "go"
    refine i_dec (fun c => ?_) (fun c => ?_)
    · walk_at "go"
      refine am_f hF ?_
      walk_at "go"
      refine ⟨f, n, ps, z, rfl, hF, o, hn, fun hz => ?_, fun hz d hd => ?_⟩
      · walk_at "go"
        refine a_tup fun p H1 hp e1 h1 => ?_
        exact q1 hz (by omega) p H1 hp e1 h1
      · refine a_WE BT.te fun a ha => ?_
        have e1 : Same H (upd H d (.xd [(("node" : Str), V.int z)])) := Same.new hd
        have h1 : upd H d (.xd [(("node" : Str), V.int z)]) d = some (.xd [(("node" : Str), V.int z)]) := upd_same
        generalize upd H d (.xd [(("node" : Str), V.int z)]) = H1 at e1 h1
        walk_at "go"
        refine a_isD h1 B.noLog ?_
        walk_at "go"
        refine a_isD h1 B.isLink ?_
        walk_at "go"
        refine a_node h1 ?_
        walk_at "go"
        refine a_tup fun p H2 hp e2 h2 => ?_
        exact q0 hz p H2 (e1.free hp) (e1.trans e2) h2
    walk_at "go"
    refine i_dec (fun c2 => ?_) (fun c2 => ?_)
    · walk_at "go"
      refine am_f hF ?_
      walk_at "go"
      refine ⟨f, n, ps, z, rfl, hF, o, hn, fun hz r H1 hr1 e1 h1 => ?_, fun hz d hd => ?_⟩
      · walk_at "go"
        refine a_tup fun p H2 hp e2 h2 => ?_
        exact q2 hz (by omega) p r H2 (e1.free hp) hr1 (e1.trans e2) h2 (e2 _ _ h1)
      · refine a_WE BT.te fun a ha => ?_
        have e1 : Same H (upd H d (.xd [(("node" : Str), V.int z)])) := Same.new hd
        have h1 : upd H d (.xd [(("node" : Str), V.int z)]) d = some (.xd [(("node" : Str), V.int z)]) := upd_same
        generalize upd H d (.xd [(("node" : Str), V.int z)]) = H1 at e1 h1
        walk_at "go"
        refine a_isD h1 B.noLog ?_
        walk_at "go"
        refine a_isD h1 B.isLink ?_
        walk_at "go"
        refine a_node h1 ?_
        walk_at "go"
        refine a_tup fun p H2 hp e2 h2 => ?_
        exact q0 hz p H2 (e1.free hp) (e1.trans e2) h2
    walk_at "go"
    refine am_f hF ?_
    walk_at "go"
    refine ⟨f, n, ps, z, rfl, hF, o, hn, fun hz r H1 hr1 e1 h1 => ?_, fun hz d hd => ?_⟩
    · walk_at "go"
      refine a_tup fun p H2 hp e2 h2 => ?_
      exact q3 hz (by omega) p r H2 (e1.free hp) hr1 (e1.trans e2) h2 (e2 _ _ h1)
    · refine a_WE BT.te fun a ha => ?_
      have e1 : Same H (upd H d (.xd [(("node" : Str), V.int z)])) := Same.new hd
      have h1 : upd H d (.xd [(("node" : Str), V.int z)]) d = some (.xd [(("node" : Str), V.int z)]) := upd_same
      generalize upd H d (.xd [(("node" : Str), V.int z)]) = H1 at e1 h1
      walk_at "go"
      refine a_isD h1 B.noLog ?_
      walk_at "go"
      refine a_isD h1 B.isLink ?_
      walk_at "go"
      refine a_node h1 ?_
      walk_at "go"
      refine a_tup fun p H2 hp e2 h2 => ?_
      exact q0 hz p H2 (e1.free hp) (e1.trans e2) h2
end
end Lw
set_option Elab.async false
set_option linter.all false
set_option maxRecDepth 100000
namespace Lw
open Lk
variable {n : Nat} {ps : PL}
abbrev fct (k : Nat) : Nat := PySem.Builtin.Math.factorialNat k
theorem fct_succ (k : Nat) : fct (k + 1) = fct k * (k + 1) := PySem.W.mc_fac_succ k
theorem fct_zero : fct 0 = 1 := by rfl
/-! ### counting -/
theorem range_cnt (a b : Nat) : ∀ n, ((List.range' 1 n).filter fun y => decide (a < y) && decide (y < b)).length = min (b - 1) n - a
  | 0 => by simp
  | n + 1 => by
    rw [List.range'_concat, List.filter_append, List.length_append, range_cnt a b n, Nat.one_mul, List.filter_cons, Nat.add_comm 1 n]
    by_cases h : a < n + 1 ∧ n + 1 < b
    · rw [if_pos (by rw [decide_eq_true h.1, decide_eq_true h.2]; rfl)]
      simp only [List.filter_nil, List.length_singleton]
      omega
    · have e : ¬ (decide (a < n + 1) && decide (n + 1 < b)) = true := by
        intro q
        obtain ⟨q1, q2⟩ := Bool.and_eq_true_iff.mp q
        exact h ⟨of_decide_eq_true q1, of_decide_eq_true q2⟩
      rw [if_neg e]
      simp only [List.filter_nil, List.length_nil]
      omega
theorem sum_add {α : Type} (f g : α → Nat) : ∀ l : List α, (l.map fun x => f x + g x).sum = (l.map f).sum + (l.map g).sum
  | [] => rfl
  | x :: l => by
    rw [List.map_cons, List.map_cons, List.map_cons, List.sum_cons, List.sum_cons, List.sum_cons, sum_add f g l]
    omega
theorem sum_mulr {α : Type} (f : α → Nat) (c : Nat) : ∀ l : List α, (l.map fun x => f x * c).sum = (l.map f).sum * c
  | [] => by simp
  | x :: l => by
    rw [List.map_cons, List.map_cons, List.sum_cons, List.sum_cons, sum_mulr f c l, Nat.add_mul]
theorem sum_mull {α : Type} (f : α → Nat) (c : Nat) : ∀ l : List α, (l.map fun x => c * f x).sum = c * (l.map f).sum
  | [] => by simp
  | x :: l => by
    rw [List.map_cons, List.map_cons, List.sum_cons, List.sum_cons, sum_mull f c l, Nat.mul_add]
theorem sum_zero {α : Type} : ∀ l : List α, (l.map fun _ => 0).sum = 0
  | [] => rfl
  | x :: l => by rw [List.map_cons, List.sum_cons, sum_zero l]
theorem sum_one {α : Type} : ∀ l : List α, (l.map fun _ => 1).sum = l.length
  | [] => rfl
  | x :: l => by rw [List.map_cons, List.sum_cons, sum_one l, List.length_cons]; omega
theorem sum_ind {α : Type} (p : α → Bool) : ∀ l : List α, (l.map fun x => if p x = true then 1 else 0).sum = (l.filter p).length
  | [] => rfl
  | x :: l => by
    rw [List.map_cons, List.sum_cons, sum_ind p l, List.filter_cons]
    by_cases h : p x = true
    · rw [if_pos h, if_pos h, List.length_cons]; omega
    · rw [if_neg h, if_neg h]; omega
theorem sum_congr {α : Type} {f g : α → Nat} {l : List α} (h : ∀ x ∈ l, f x = g x) : (l.map f).sum = (l.map g).sum := by rw [List.map_congr_left h]
theorem dbl {α β : Type} (R : α → β → Bool) (m : List β) : ∀ l : List α, (l.map fun x => (m.filter (R x)).length).sum = (m.map fun y => (l.filter fun x => R x y).length).sum
  | [] => by
    show 0 = (m.map fun _ => 0).sum
    rw [sum_zero]
  | x :: l => by
    rw [List.map_cons, List.sum_cons, dbl R m l, ← sum_ind (R x) m, ← sum_add]
    refine sum_congr fun y _ => ?_
    rw [List.filter_cons]
    by_cases h : R x y = true
    · rw [if_pos h, if_pos h, List.length_cons]; omega
    · rw [if_neg h, if_neg h]; omega
theorem uniq1 {l : List Nat} (nd : l.Nodup) {x : Nat} (hx : x ∈ l) {f : Nat → Bool} (hf : f x = true) (hu : ∀ y ∈ l, f y = true → y = x) : (l.filter f).length = 1 := by
  have e : l.filter f = l.filter fun y => decide (y = x) := List.filter_congr fun y hy => by
    by_cases h : y = x
    · subst h; rw [hf]; simp
    · cases q : f y with
      | false => simp [h]
      | true => exact absurd (hu y hy q) h
  have := flt_one nd hx (f := fun y => decide (y = x)) (g := fun _ => false) (by simp) rfl (fun y hy => by simp [hy])
  have z : (l.filter fun _ => false).length = 0 := by simp
  rw [e]
  omega
def topsN (n : Nat) (ps : PL) : List Nat := (List.range' 1 n).filter (topB ps)
theorem topsN_mem (o : OK n ps) {t : Nat} : t ∈ topsN n ps ↔ isTop ps t := by
  unfold topsN
  rw [List.mem_filter, List.mem_range'_1, topB_iff]
  constructor
  · exact fun h => h.2
  · intro h
    obtain ⟨a, b, e, _⟩ := id h
    have := o.pos (x := t) (by rw [e]; simp)
    exact ⟨by omega, h⟩
theorem top_width (o : OK n ps) {t a b : Nat} (e : at_ ps t = some (a, b)) : ((outsN n ps).filter fun y => cnt ps y t).length = b - a - 1 := by
  have r := o.rng e
  unfold outsN
  rw [List.filter_filter]
  have h := range_cnt a b n
  rw [show min (b - 1) n - a = b - a - 1 by omega] at h
  rw [← h]
  congr 1
  refine List.filter_congr fun y hy => ?_
  have hc : cnt ps y t = (decide (a < y) && decide (y < b)) := by unfold cnt; rw [e]
  rw [hc]
  cases q : decide (a < y) && decide (y < b) with
  | false => rfl
  | true =>
    obtain ⟨q1, q2⟩ := Bool.and_eq_true_iff.mp q
    obtain ⟨c, d, e2, _⟩ := o.within e (of_decide_eq_true q1) (of_decide_eq_true q2)
    rw [outB_t e2]
    rfl
theorem tops_sum (o : OK n ps) : ((topsN n ps).map fun t => lR ps t - lL ps t - 1).sum = (outsN n ps).length := by
  have h1 : ((topsN n ps).map fun t => lR ps t - lL ps t - 1).sum = ((topsN n ps).map fun t => ((outsN n ps).filter fun y => cnt ps y t).length).sum := sum_congr fun t ht => by
    obtain ⟨a, b, e, _⟩ := (topsN_mem o).mp ht
    rw [top_width o e, lR_some e, lL_some e]
  rw [h1, dbl (fun t y => cnt ps y t) (outsN n ps) (topsN n ps), ← sum_one (outsN n ps)]
  refine sum_congr fun y hy => ?_
  obtain ⟨t, a, b, e, ha, hb, h3, h4⟩ := o.topOver ((outsN_mem o).mp hy)
  have nd : (topsN n ps).Nodup := List.Pairwise.filter (topB ps) (List.nodup_range' (step := 1))
  refine uniq1 nd ((topsN_mem o).mpr ⟨a, b, e, ha, hb⟩) (cnt_iff.mpr ⟨a, b, e, h3, h4⟩) fun s hs hc => ?_
  obtain ⟨c, d, e2, hc1, hd1⟩ := (topsN_mem o).mp hs
  obtain ⟨c', d', e3, h5, h6⟩ := cnt_iff.mp hc
  rw [e2] at e3
  cases e3
  exact o.topUniq e2 hc1 hd1 e ha hb h5 h6 h3 h4
/-! ### relinking a top -/
theorem rel_at (o : OK n ps) {t y : Nat} (ht : at_ ps t ≠ none) : at_ (Lk.rel ps t) y = if y = t then none else at_ ps y := by
  have h1 := o.pos ht
  have h2 := o.len
  unfold Lk.rel
  rw [at_set (by omega)]
theorem isTop_out {t : Nat} (h : isTop ps t) : at_ ps t ≠ none := by
  obtain ⟨a, b, e, _⟩ := h
  rw [e]; simp
theorem outB_rel (o : OK n ps) {t y : Nat} (ht : at_ ps t ≠ none) (hy : y ≠ t) : outB (Lk.rel ps t) y = outB ps y := by
  unfold outB
  rw [rel_at o ht, if_neg hy]
theorem outs_rel_len (o : OK n ps) {t : Nat} (ht : at_ ps t ≠ none) : (outsN n (Lk.rel ps t)).length + 1 = (outsN n ps).length := by
  have h1 := o.pos ht
  obtain ⟨a, b, e⟩ := ne_none ht
  refine flt_one (List.nodup_range' (step := 1)) (List.mem_range'_1.mpr ⟨h1.1, by omega⟩) (outB_t e) ?_ fun y hy => outB_rel o ht hy
  exact outB_f (by rw [rel_at o ht, if_pos rfl])
theorem prodW_congr {ps qs : PL} : ∀ {l : List Nat}, (∀ y ∈ l, lR ps y - lL ps y - 1 = lR qs y - lL qs y - 1) → prodW ps l = prodW qs l
  | [], _ => rfl
  | x :: l, h => by
    rw [prodW_cons, prodW_cons, h x (List.mem_cons_self ..), prodW_congr fun y hy => h y (List.mem_cons_of_mem _ hy)]
theorem prodW_del {qs : PL} : ∀ {l : List Nat}, l.Nodup → ∀ {x : Nat}, x ∈ l → ∀ {f g : Nat → Bool}, f x = true → g x = false → (∀ y, y ≠ x → g y = f y) → (∀ y, y ≠ x → f y = true → lR ps y - lL ps y - 1 = lR qs y - lL qs y - 1) →
    prodW ps (l.filter f) = (lR ps x - lL ps x - 1) * prodW qs (l.filter g)
  | [], _, x, hx, _, _, _, _, _, _ => by cases hx
  | y :: l, nd, x, hx, f, g, hf, hg, h, hw => by
    obtain ⟨n1, n2⟩ := List.nodup_cons.mp nd
    by_cases e : y = x
    · subst e
      rw [List.filter_cons, List.filter_cons, if_pos hf, if_neg (by rw [hg]; decide), prodW_cons]
      have ef : l.filter g = l.filter f := List.filter_congr fun z hz => h z (fun q => n1 (q ▸ hz))
      rw [ef, prodW_congr (qs := qs) fun z hz => hw z (fun q => n1 (q ▸ (List.mem_filter.mp hz).1)) (List.mem_filter.mp hz).2]
    · have hx' : x ∈ l := by
        rcases List.mem_cons.mp hx with q | q
        · exact absurd q.symm e
        · exact q
      have ih := prodW_del n2 hx' hf hg h hw
      rw [List.filter_cons, List.filter_cons, h y e]
      by_cases hy : f y = true
      · rw [if_pos hy, if_pos hy, prodW_cons, prodW_cons, ih, hw y e hy]
        rw [← Nat.mul_assoc, ← Nat.mul_assoc, Nat.mul_comm (lR qs y - lL qs y - 1)]
      · rw [if_neg hy, if_neg hy]
        exact ih
theorem prod_rel (o : OK n ps) {t : Nat} (ht : at_ ps t ≠ none) : prodW ps (outsN n ps) = (lR ps t - lL ps t - 1) * prodW (Lk.rel ps t) (outsN n (Lk.rel ps t)) := by
  have h1 := o.pos ht
  obtain ⟨a, b, e⟩ := ne_none ht
  refine prodW_del (List.nodup_range' (step := 1)) (List.mem_range'_1.mpr ⟨h1.1, by omega⟩) (outB_t e) (outB_f (by rw [rel_at o ht, if_pos rfl])) (fun y hy => outB_rel o ht hy) fun y hy hf => ?_
  obtain ⟨c, d, e2⟩ := outB_some hf
  have e3 : at_ (Lk.rel ps t) y = some (c, d) := by rw [rel_at o ht, if_neg hy]; exact e2
  rw [lR_some e2, lL_some e2, lR_some e3, lL_some e3]
/-! ### the quotient -/
def qN (n : Nat) (ps : PL) : Nat := fct (outsN n ps).length / prodW ps (outsN n ps)
theorem prod_pos (o : OK n ps) : 1 ≤ prodW ps (outsN n ps) := prodW_pos fun x hx => by
  obtain ⟨a, b, e⟩ := ne_none ((outsN_mem o).mp hx)
  rw [lR_some e, lL_some e]
  have := o.rng e
  omega
theorem hook : ∀ k, ∀ ps, OK n ps → (outsN n ps).length = k → qN n ps * prodW ps (outsN n ps) = fct k ∧ (0 < k → qN n ps = ((topsN n ps).map fun t => qN n (Lk.rel ps t)).sum)
  | 0, ps, o, hk => by
    refine ⟨?_, fun h => by omega⟩
    unfold qN
    rw [List.length_eq_zero_iff.mp hk]
    show fct 0 / 1 * 1 = fct 0
    rw [fct_zero]
  | k + 1, ps, o, hk => by
    have hp := prod_pos o
    have key : ∀ t ∈ topsN n ps, (lR ps t - lL ps t - 1) * fct k = qN n (Lk.rel ps t) * prodW ps (outsN n ps) := fun t ht => by
      have top := (topsN_mem o).mp ht
      have hout := isTop_out top
      have or := o.rel top
      have hl := outs_rel_len o hout
      obtain ⟨ih, _⟩ := hook k (Lk.rel ps t) or (by omega)
      rw [← ih, prod_rel o hout, ← Nat.mul_assoc, ← Nat.mul_assoc, Nat.mul_comm (qN n (Lk.rel ps t))]
    have s1 : ((topsN n ps).map fun t => (lR ps t - lL ps t - 1) * fct k).sum = ((topsN n ps).map fun t => qN n (Lk.rel ps t) * prodW ps (outsN n ps)).sum := sum_congr key
    rw [sum_mulr, sum_mulr, tops_sum o, hk, Nat.mul_comm, ← fct_succ] at s1
    have e : qN n ps = ((topsN n ps).map fun t => qN n (Lk.rel ps t)).sum := by
      unfold qN at s1 ⊢
      rw [hk, s1]
      exact Nat.mul_div_cancel _ hp
    refine ⟨?_, fun _ => e⟩
    rw [e, s1]
theorem hookZ_qN (n : Nat) (ps : PL) : hookZ n ps = ((qN n ps : Nat) : Int) := by
  unfold hookZ qN
  exact (Int.natCast_ediv _ _).symm
theorem q_empty (o : OK n ps) (h : outsN n ps = []) : qN n ps = 1 := by
  unfold qN
  rw [h]
  show fct 0 / 1 = 1
  rw [fct_zero]
theorem tops_empty (o : OK n ps) : topsN n ps = [] ↔ outsN n ps = [] := by
  constructor
  · intro h
    cases e : outsN n ps with
    | nil => rfl
    | cons y l =>
      have hy : y ∈ outsN n ps := by rw [e]; exact List.mem_cons_self ..
      obtain ⟨t, a, b, e, ha, hb, _⟩ := o.topOver ((outsN_mem o).mp hy)
      have : t ∈ topsN n ps := (topsN_mem o).mpr ⟨a, b, e, ha, hb⟩
      rw [h] at this
      cases this
  · intro h
    cases e : topsN n ps with
    | nil => rfl
    | cons t l =>
      have ht : t ∈ topsN n ps := by rw [e]; exact List.mem_cons_self ..
      have : t ∈ outsN n ps := (outsN_mem o).mpr (isTop_out ((topsN_mem o).mp ht))
      rw [h] at this
      cases this
theorem hook_sum (o : OK n ps) (h : outsN n ps ≠ []) : qN n ps = ((topsN n ps).map fun t => qN n (Lk.rel ps t)).sum := by
  refine (hook _ ps o rfl).2 ?_
  exact List.length_pos_iff.mpr h
end Lw
set_option Elab.async false
set_option linter.all false
set_option maxRecDepth 100000
namespace Lw
open Lk
variable {n : Nat} {ps : PL}
/-! ### masks of what is relinked -/
def clr (ps : PL) (f : Nat → Bool) : PL := ps.mapIdx fun y o => if f y then none else o
theorem clr_len (ps : PL) (f : Nat → Bool) : (clr ps f).length = ps.length := by unfold clr; simp
theorem clr_at {f : Nat → Bool} {y : Nat} : at_ (clr ps f) y = if f y then none else at_ ps y := by
  by_cases h : y < ps.length
  · have e : (clr ps f)[y]? = some (if f y then none else at_ ps y) := by
      unfold clr
      rw [List.getElem?_mapIdx, at_get h]
      rfl
    unfold at_ at e ⊢
    rw [List.getD_eq_getElem?_getD, e]
    rfl
  · rw [at_out (by rw [clr_len]; omega), at_out (ps := ps) (by omega)]
    split <;> rfl
def sel (os : List Nat) (m y : Nat) : Bool := decide (y ∈ os) && m.testBit (os.idxOf y)
def cl (n : Nat) (ps : PL) (m : Nat) : PL := clr ps (sel (outsN n ps) m)
theorem cl_at {m y : Nat} : at_ (cl n ps m) y = if sel (outsN n ps) m y then none else at_ ps y := clr_at
theorem cl_zero : cl n ps 0 = ps := ext_at (clr_len _ _) fun y _ => by
  rw [cl_at]
  have e : sel (outsN n ps) 0 y = false := by unfold sel; rw [Nat.zero_testBit, Bool.and_false]
  rw [e]
  rfl
theorem bits_add : ∀ m : Fin 128, ∀ i : Fin 7, m.val.testBit i.val = false → ((m.val + 2 ^ i.val < 128) ∧ ∀ j : Fin 7, (m.val + 2 ^ i.val).testBit j.val = (m.val.testBit j.val || decide (j.val = i.val))) := by decide +kernel
theorem bits_and0 : ∀ m : Fin 128, ∀ i : Fin 7, (PySem.Builtin.bitAnd (m.val : Int) ((2 ^ i.val : Nat) : Int) = 0) ↔ m.val.testBit i.val = false := by decide +kernel
theorem bits_and1 : ∀ m : Fin 128, ∀ i : Fin 7, (PySem.Builtin.bitAnd (m.val : Int) ((2 ^ i.val : Nat) : Int) = ((2 ^ i.val : Nat) : Int)) ↔ m.val.testBit i.val = true := by decide +kernel
theorem bits_andZ : ∀ m : Fin 128, PySem.Builtin.bitAnd (m.val : Int) 0 = 0 := by decide +kernel
theorem idx_lt {os : List Nat} {y : Nat} (h : y ∈ os) : os.idxOf y < os.length := List.idxOf_lt_length_of_mem h
theorem idx_inj {os : List Nat} {x y : Nat} (hx : x ∈ os) (hy : y ∈ os) (h : os.idxOf x = os.idxOf y) : x = y := by
  have e1 := List.getElem_idxOf (idx_lt hx)
  have e2 := List.getElem_idxOf (idx_lt hy)
  rw [← e1, ← e2]
  congr 1
structure Vl (n : Nat) (ps : PL) (t m : Nat) : Prop where
  lt : m < 128
  ok : OK n (cl n ps m)
  cnt : (outsN n (cl n ps m)).length + t = (outsN n ps).length
  clo : ∀ p, sel (outsN n ps) m p = true → ∀ c d, at_ ps p = some (c, d) → at_ (cl n ps m) c = none ∧ at_ (cl n ps m) d = none
theorem Vl.zero (o : OK n ps) : Vl n ps 0 0 := ⟨by decide, by rw [cl_zero]; exact o, by rw [cl_zero]; rfl, fun p hp => by
  have e : sel (outsN n ps) 0 p = false := by unfold sel; rw [Nat.zero_testBit, Bool.and_false]
  rw [e] at hp
  cases hp⟩
theorem sel_add {os : List Nat} (hk : os.length ≤ 7) {m x : Nat} (hm : m < 128) (hx : x ∈ os) (hb : m.testBit (os.idxOf x) = false) (y : Nat) : m + 2 ^ (os.idxOf x) < 128 ∧ sel os (m + 2 ^ (os.idxOf x)) y = (sel os m y || decide (y = x)) := by
  have hi := idx_lt hx
  obtain ⟨h1, h2⟩ := bits_add ⟨m, hm⟩ ⟨os.idxOf x, by omega⟩ hb
  refine ⟨h1, ?_⟩
  unfold sel
  by_cases hy : y ∈ os
  · have hj := idx_lt hy
    have h3 := h2 ⟨os.idxOf y, by omega⟩
    dsimp only at h3
    rw [h3, decide_eq_true hy, Bool.true_and, Bool.true_and]
    by_cases e : y = x
    · subst e; simp
    · have : ¬ os.idxOf y = os.idxOf x := fun q => e (idx_inj hy hx q)
      rw [decide_eq_false e, decide_eq_false this]
  · have e : ¬ y = x := fun q => hy (q ▸ hx)
    rw [decide_eq_false hy, decide_eq_false e]
    rfl
theorem cl_out {m y : Nat} (h : at_ (cl n ps m) y ≠ none) : sel (outsN n ps) m y = false ∧ at_ (cl n ps m) y = at_ ps y := by
  rw [cl_at] at h
  by_cases e : sel (outsN n ps) m y = true
  · rw [if_pos e] at h; exact absurd rfl h
  · have e2 : sel (outsN n ps) m y = false := by simpa using e
    exact ⟨e2, by rw [cl_at, if_neg e]⟩
theorem cl_top (o : OK n ps) {m x : Nat} (h : isTop (cl n ps m) x) : x ∈ outsN n ps ∧ m.testBit ((outsN n ps).idxOf x) = false ∧ at_ ps x ≠ none := by
  have h1 := isTop_out h
  obtain ⟨h2, h3⟩ := cl_out h1
  rw [h3] at h1
  have hm := (outsN_mem o).mpr h1
  refine ⟨hm, ?_, h1⟩
  unfold sel at h2
  rw [decide_eq_true hm, Bool.true_and] at h2
  exact h2
theorem cl_rel (o : OK n ps) (hk : (outsN n ps).length ≤ 7) {t m x : Nat} (v : Vl n ps t m) (h : isTop (cl n ps m) x) : cl n ps (m + 2 ^ ((outsN n ps).idxOf x)) = rel (cl n ps m) x := by
  obtain ⟨hx, hb, hout⟩ := cl_top o h
  refine ext_at (by rw [rel_len]; unfold cl; rw [clr_len, clr_len]) fun y _ => ?_
  rw [cl_at, (sel_add hk v.lt hx hb y).2, rel_at v.ok (isTop_out h), cl_at]
  by_cases e : y = x
  · rw [if_pos (by rw [decide_eq_true e, Bool.or_true]), if_pos e]
  · rw [decide_eq_false e, Bool.or_false, if_neg e]
theorem Vl.step (o : OK n ps) (hk : (outsN n ps).length ≤ 7) {t m x : Nat} (v : Vl n ps t m) (h : isTop (cl n ps m) x) : Vl n ps (t + 1) (m + 2 ^ ((outsN n ps).idxOf x)) := by
  obtain ⟨hx, hb, hout⟩ := cl_top o h
  have e := cl_rel o hk v h
  refine ⟨(sel_add hk v.lt hx hb x).1, by rw [e]; exact v.ok.rel h, ?_, fun p hp c d hcd => ?_⟩
  · rw [e]
    have := outs_rel_len v.ok (isTop_out h)
    have := v.cnt
    omega
  · have keep : ∀ z, at_ (cl n ps m) z = none → at_ (cl n ps (m + 2 ^ ((outsN n ps).idxOf x))) z = none := fun z hz => by
      rw [e, rel_at v.ok (isTop_out h)]
      split
      · rfl
      · exact hz
    rw [(sel_add hk v.lt hx hb p).2] at hp
    by_cases ep : p = x
    · subst ep
      obtain ⟨a, b, e1, ha, hb'⟩ := h
      have e2 := (cl_out (n := n) (ps := ps) (m := m) (y := p) (by rw [e1]; simp)).2
      rw [e1, hcd] at e2
      cases e2
      exact ⟨keep _ ha, keep _ hb'⟩
    · rw [decide_eq_false ep, Bool.or_false] at hp
      obtain ⟨h1, h2⟩ := v.clo p hp c d hcd
      exact ⟨keep _ h1, keep _ h2⟩
/-- the bit of a node, 0 for none -/
def bb (n : Nat) (ps : PL) (y : Nat) : Nat := if y ∈ outsN n ps then 2 ^ ((outsN n ps).idxOf y) else 0
theorem bb_in {y : Nat} (h : y ∈ outsN n ps) : bb n ps y = 2 ^ ((outsN n ps).idxOf y) := if_pos h
theorem bb_zero (o : OK n ps) : bb n ps 0 = 0 := if_neg fun h => (outsN_mem o).mp h o.h0
theorem cond_top (o : OK n ps) (hk : (outsN n ps).length ≤ 7) {t m x : Nat} (v : Vl n ps t m) (hx : x ∈ outsN n ps) :
    (PySem.Builtin.bitAnd (m : Int) (bb n ps x : Int) = 0 ∧ PySem.Builtin.bitAnd (m : Int) (bb n ps (par ps x) : Int) = (bb n ps (par ps x) : Int)) ↔ isTop (cl n ps m) x := by
  have hi := idx_lt hx
  have hxo := (outsN_mem o).mp hx
  obtain ⟨a, b, e⟩ := ne_none hxo
  have r := o.rng e
  rw [bb_in hx, bits_and0 ⟨m, v.lt⟩ ⟨(outsN n ps).idxOf x, by omega⟩]
  have sx : sel (outsN n ps) m x = m.testBit ((outsN n ps).idxOf x) := by unfold sel; rw [decide_eq_true hx, Bool.true_and]
  constructor
  · rintro ⟨h1, h2⟩
    have h1 : m.testBit ((outsN n ps).idxOf x) = false := h1
    have ex : at_ (cl n ps m) x = some (a, b) := by rw [cl_at, sx, h1]; exact e
    rcases o.par_or e with ⟨_, ha, hb⟩ | ⟨c, d, q⟩
    · have keep : ∀ z, at_ ps z = none → at_ (cl n ps m) z = none := fun z hz => by rw [cl_at]; split <;> first | rfl | exact hz
      exact ⟨a, b, ex, keep a ha, keep b hb⟩
    · have hp : par ps x ∈ outsN n ps := (outsN_mem o).mpr (by rw [q.at_]; simp)
      have hj := idx_lt hp
      rw [bb_in hp, bits_and1 ⟨m, v.lt⟩ ⟨(outsN n ps).idxOf (par ps x), by omega⟩] at h2
      have sp : sel (outsN n ps) m (par ps x) = true := by unfold sel; rw [decide_eq_true hp, Bool.true_and]; exact h2
      have np : at_ (cl n ps m) (par ps x) = none := by rw [cl_at, if_pos sp]
      obtain ⟨h3, h4⟩ := v.clo _ sp c d q.at_
      rcases q.side with ⟨e1, e2⟩ | ⟨e1, e2⟩
      · rw [e1] at np
        rw [e2] at h3
        exact ⟨a, b, ex, h3, np⟩
      · rw [e1] at np
        rw [e2] at h4
        exact ⟨a, b, ex, np, h4⟩
  · intro h
    obtain ⟨_, hb, _⟩ := cl_top o h
    refine ⟨hb, ?_⟩
    obtain ⟨a', b', e1, ha, hb'⟩ := h
    have e2 := (cl_out (n := n) (ps := ps) (m := m) (y := x) (by rw [e1]; simp)).2
    rw [e1, e] at e2
    cases e2
    rcases o.par_or e with ⟨h0, _⟩ | ⟨c, d, q⟩
    · rw [h0, bb_zero o]
      exact bits_andZ ⟨m, v.lt⟩
    · have hpo : at_ ps (par ps x) ≠ none := by rw [q.at_]; simp
      have hp : par ps x ∈ outsN n ps := (outsN_mem o).mpr hpo
      have hj := idx_lt hp
      have np : at_ (cl n ps m) (par ps x) = none := by
        rcases q.side with ⟨e1, _⟩ | ⟨e1, _⟩
        · rw [e1]; exact hb'
        · rw [e1]; exact ha
      rw [bb_in hp, bits_and1 ⟨m, v.lt⟩ ⟨(outsN n ps).idxOf (par ps x), by omega⟩]
      rw [cl_at] at np
      by_cases s : sel (outsN n ps) m (par ps x) = true
      · unfold sel at s
        rw [decide_eq_true hp, Bool.true_and] at s
        exact s
      · rw [if_neg s] at np
        exact absurd np hpo
theorem tops_cl (o : OK n ps) (m : Nat) : (outsN n ps).filter (topB (cl n ps m)) = topsN n (cl n ps m) := by
  unfold topsN outsN
  rw [List.filter_filter]
  refine List.filter_congr fun y _ => ?_
  cases q : topB (cl n ps m) y with
  | false => rfl
  | true =>
    obtain ⟨_, _, h⟩ := cl_top o (topB_iff.mp q)
    obtain ⟨a, b, e⟩ := ne_none h
    rw [outB_t e]
    rfl
/-! ### the counts, laid under masks -/
def putN (es : List (Nat × Nat)) (m c : Nat) : List (Nat × Nat) := if (es.any fun p => decide (p.1 = m)) = true then es.map (fun p => if p.1 = m then (p.1, c) else p) else es ++ [(m, c)]
def getN (es : List (Nat × Nat)) (m : Nat) : Option Nat := (es.find? fun p => decide (p.1 = m)).map (·.2)
def wsum (F : Nat → Nat) (es : List (Nat × Nat)) : Nat := (es.map fun p => p.2 * F p.1).sum
def keysN (es : List (Nat × Nat)) : List Nat := es.map (·.1)
theorem any_keys {es : List (Nat × Nat)} {m : Nat} : (es.any fun p => decide (p.1 = m)) = true ↔ m ∈ keysN es := by
  unfold keysN
  rw [List.any_eq_true, List.mem_map]
  constructor
  · rintro ⟨p, hp, h⟩; exact ⟨p, hp, of_decide_eq_true h⟩
  · rintro ⟨p, hp, h⟩; exact ⟨p, hp, decide_eq_true h⟩
theorem keys_map {es : List (Nat × Nat)} {m c : Nat} : keysN (es.map fun p => if p.1 = m then (p.1, c) else p) = keysN es := by
  unfold keysN
  rw [List.map_map]
  refine List.map_congr_left fun p _ => ?_
  show (if p.1 = m then (p.1, c) else p).1 = p.1
  split <;> rfl
theorem put_keys {es : List (Nat × Nat)} {m c : Nat} : ∀ k, k ∈ keysN (putN es m c) ↔ k ∈ keysN es ∨ k = m := by
  intro k
  unfold putN
  split
  next h =>
    rw [keys_map]
    constructor
    · exact .inl
    · rintro (h2 | h2)
      · exact h2
      · rw [h2]; exact any_keys.mp h
  next h =>
    unfold keysN
    rw [List.map_append, List.mem_append]
    simp
theorem put_nodup {es : List (Nat × Nat)} {m c : Nat} (nd : (keysN es).Nodup) : (keysN (putN es m c)).Nodup := by
  unfold putN
  split
  next h => rw [keys_map]; exact nd
  next h =>
    unfold keysN at nd ⊢
    rw [List.map_append]
    refine List.nodup_append.mpr ⟨nd, by simp, fun a ha b hb => ?_⟩
    have hb : b = m := by simpa using hb
    subst hb
    rintro rfl
    exact h (any_keys.mpr ha)
theorem wsum_upd (F : Nat → Nat) {m c : Nat} : ∀ {es : List (Nat × Nat)}, (keysN es).Nodup → m ∈ keysN es → wsum F (es.map fun p => if p.1 = m then (p.1, (getN es m).getD 0 + c) else p) = wsum F es + c * F m
  | [], _, h => by cases h
  | (k, v) :: es, nd, h => by
    have nd' : k ∉ keysN es ∧ (keysN es).Nodup := List.nodup_cons.mp nd
    by_cases e : k = m
    · subst e
      have hg : getN ((k, v) :: es) k = some v := by unfold getN; simp
      have hs : (es.map fun p => if p.1 = k then (p.1, (getN ((k, v) :: es) k).getD 0 + c) else p) = es := by
        conv => rhs; rw [← List.map_id es]
        refine List.map_congr_left fun p hp => ?_
        rw [if_neg]
        · rfl
        · intro q
          exact nd'.1 (List.mem_map.mpr ⟨p, hp, q⟩)
      unfold wsum at hs ⊢
      rw [List.map_cons, hs, if_pos rfl, hg]
      simp only [List.map_cons, List.sum_cons, Option.getD_some, Nat.add_mul]
      omega
    · have hm : m ∈ keysN es := by
        rcases List.mem_cons.mp h with q | q
        · exact absurd q.symm e
        · exact q
      have hg : getN ((k, v) :: es) m = getN es m := by unfold getN; simp [e]
      have ih := wsum_upd F (c := c) nd'.2 hm
      rw [List.map_cons, hg, if_neg e]
      unfold wsum at ih ⊢
      rw [List.map_cons, List.sum_cons, ih, List.map_cons, List.sum_cons]
      omega
theorem getN_none {es : List (Nat × Nat)} {m : Nat} (h : m ∉ keysN es) : getN es m = none := by
  unfold getN
  rw [List.find?_eq_none.mpr]
  · rfl
  · intro p hp q
    exact h (List.mem_map.mpr ⟨p, hp, of_decide_eq_true q⟩)
theorem wsum_put (F : Nat → Nat) {es : List (Nat × Nat)} {m c : Nat} (nd : (keysN es).Nodup) : wsum F (putN es m ((getN es m).getD 0 + c)) = wsum F es + c * F m := by
  unfold putN
  by_cases h : (es.any fun p => decide (p.1 = m)) = true
  · rw [if_pos h]
    exact wsum_upd F nd (any_keys.mp h)
  · rw [if_neg h, getN_none (fun q => h (any_keys.mpr q))]
    unfold wsum
    rw [List.map_append, List.sum_append]
    simp
theorem getN_at {es : List (Nat × Nat)} (nd : (keysN es).Nodup) {i m c : Nat} (h : es[i]? = some (m, c)) : getN es m = some c := by
  induction es generalizing i with
  | nil => simp at h
  | cons p es ih =>
    have nd' : p.1 ∉ keysN es ∧ (keysN es).Nodup := List.nodup_cons.mp nd
    cases i with
    | zero =>
      have h : p = (m, c) := Option.some.inj h
      subst h
      unfold getN
      simp
    | succ i =>
      have h : es[i]? = some (m, c) := h
      have hm : m ∈ keysN es := List.mem_map.mpr ⟨(m, c), List.mem_of_getElem? h, rfl⟩
      have ne : ¬ p.1 = m := fun q => nd'.1 (q ▸ hm)
      have := ih nd'.2 h
      unfold getN at this ⊢
      rw [List.find?_cons]
      simp [ne, this]
end Lw
set_option Elab.async false
set_option linter.all false
set_option maxRecDepth 100000
set_option maxHeartbeats 4000000
namespace Lw
open PySem PySem.Spec PyProof.Rows L2
/-! ### list(d.values()) -/
def tListVals (td : TE) : TE := fun σ H Q => td σ H fun x H1 => ∃ a kvs, x = V.ref a ∧ H1 a = some (.dK kvs) ∧ ∀ p, H1 p = none → Q (.ref p) (upd H1 p (.lst (kvs.map (·.2))))
theorem pe_listVals {X : Cx} {o : Expr} {p pos apos mpos : Pos} {td : TE} (hc : X.calm = true) (hg : L2.Gl X "list") (hm : X.mg "list" = none) (hd : PE X o td) (hbase : attributeBase o "values" X.env (eval o X.env) = eval o X.env := by rfl) (hline : (apos.endLine == mpos.line) = true := by rfl)
    (hse : starEach [Expr.Call (.Attribute o "values" apos) [] [] mpos] X.env = (false, eval (Expr.Call (.Attribute o "values" apos) [] [] mpos) X.env) :: starEach [] X.env := by rfl) :
    PE X (.Call (.Name "list" p) [.Call (.Attribute o "values" apos) [] [] mpos] [] pos) (tListVals td) := by
  refine ⟨fun pins s σ H Q I h => ?_⟩
  refine Call_ (ld_blt I hg hm boot_list (PyProof.Rows.callWith_type1 (args_cons (wpAny_Call_method0_late hbase hline (thn (hd.run pins s σ H _ I h) fun v s1 ⟨x, H1, I1, r1, a, kvs, ex, ha, q⟩ => ?_)) hse) hse))
  subst ex
  obtain rfl : v = Value.ref a := r1
  obtain ⟨hz, hsys, vs, rel, dof⟩ := dk_of I1.hok ha
  obtain ⟨ep, dat⟩ := dof.dictAt
  have dat' := dat
  obtain ⟨ob, es, ho, ex, hdat, hko, hpr, hnd⟩ := dat'
  refine ⟨"dict", "dict.values", F.plainAttrs_dict, F.slot_dict_values, F.type_dict_values, ⟨ob, ho, ex.1⟩, fun b e => ?_, Calls.callWith_builtin rfl (PySem.evalArgs_none ?_)⟩
  · cases e
    exact ⟨ob, ho, ex.2.1⟩
  refine call_meetsIn F.slot_dict_values ⟨ob, ho, ex.1⟩ F.entry_dict_values (F.args_dict_values_1 _) (meets_dict_values (mixKind X.prog X.w) a hsys) ⟨⟨vs, dof⟩, ?_⟩
  have k1 : ∀ b u, s1.heap.get? b = some u → (s1.heap.push { cls := .type "dict_values", data := .fields #[.ref a] }).get? b = some u := fun b u e => Heap.get?_push_of_some _ e
  have dat1 : (s1.heap.push { cls := .type "dict_values", data := .fields #[.ref a] }).DictAt (mixKind X.prog X.w) a vs ep := dat.keep k1
  refine args_nil ?_
  have I2 : Inv X pins σ H1 { s1 with heap := s1.heap.push { cls := .type "dict_values", data := .fields #[.ref a] } } := I1.kept (t' := s1.toks) k1
  refine PySem.W.kdl_call (PySem.W.kdl_values (knd := mixKind X.prog X.w) (r := s1.heap.objs.size) (kvs := vs) (ep := ep)) (I.ok.hd hc) ⟨⟨_, Heap.get?_push_size _ rfl, rfl, rfl⟩, dat1⟩ (by rw [← rel.length]; exact hz) fun h' tk acc c' hk hD hacc => ?_
  have hv : Vals (kvs.map (·.2)) acc.toList := vals_of_at ((List.length_map _).trans (rel.length.trans (hacc.1.symm.trans Array.length_toList.symm))) fun j x u h1 h2 => by
    obtain ⟨k, hk2⟩ := hacc.2 j u (by rw [← Array.getElem?_toList]; exact h2)
    obtain ⟨y, h3, h4⟩ := KV.at' rel hk2
    rw [List.getElem?_map, h3] at h1
    cases h1
    exact h4
  exact ⟨.ref _, _, I2.laid (t' := tk) hk (Nat.le_refl _) (show ObjOk X.prog X.w _ _ _ (.lst (kvs.map (·.2))) from ⟨by rw [List.length_map]; exact hz, acc.toList, c', hv, by rw [Array.toArray_toList]; exact hD⟩), rfl, q _ (I2.hok.fresh (Nat.le_refl _))⟩
end Lw
set_option Elab.async false
set_option linter.all false
set_option maxRecDepth 100000
set_option maxHeartbeats 4000000
namespace Lw
open PySem PySem.Spec PyProof.Rows L2
/-! ### dicts, read -/
def nk (m : Nat) : L2.Key := Sum.inl ((m : Nat) : Int)
def enc (es : List (Nat × Nat)) : List (L2.Key × V) := es.map fun p => (nk p.1, V.int ((p.2 : Nat) : Int))
theorem nk_inj {a b : Nat} : nk a = nk b ↔ a = b := by
  constructor
  · intro h
    have := Sum.inl.inj h
    omega
  · intro h; rw [h]
theorem dec_nk {a b : Nat} : decide (nk a = nk b) = decide (a = b) := by
  by_cases h : a = b
  · rw [decide_eq_true h, decide_eq_true (nk_inj.mpr h)]
  · rw [decide_eq_false h, decide_eq_false (fun q => h (nk_inj.mp q))]
theorem enc_put (es : List (Nat × Nat)) (m c : Nat) : putK (enc es) (nk m) (V.int ((c : Nat) : Int)) = enc (putN es m c) := by
  have e1 : ((enc es).any fun kv => decide (kv.1 = nk m)) = (es.any fun p => decide (p.1 = m)) := by
    unfold enc
    rw [List.any_map]
    congr 1
    funext p
    exact dec_nk
  unfold putK putN
  rw [e1]
  split
  next h =>
    unfold enc
    rw [List.map_map, List.map_map]
    refine List.map_congr_left fun p _ => ?_
    show (if nk p.1 = nk m then (nk p.1, V.int ((c : Nat) : Int)) else (nk p.1, V.int ((p.2 : Nat) : Int))) = (nk (if p.1 = m then (p.1, c) else p).1, V.int (((if p.1 = m then (p.1, c) else p).2 : Nat) : Int))
    by_cases q : p.1 = m
    · rw [if_pos q, if_pos (nk_inj.mpr q)]
    · rw [if_neg q, if_neg (fun z => q (nk_inj.mp z))]
  next h =>
    unfold enc
    rw [List.map_append]
    rfl
theorem enc_get (m : Nat) : ∀ es : List (Nat × Nat), valV (enc es) (nk m) = (getN es m).map fun c => V.int ((c : Nat) : Int)
  | [] => rfl
  | p :: es => by
    have ih := enc_get m es
    by_cases h : p.1 = m
    · have e1 : valV (enc (p :: es)) (nk m) = some (V.int ((p.2 : Nat) : Int)) := valV_pos (p := (nk p.1, V.int ((p.2 : Nat) : Int))) (nk_inj.mpr h)
      have e2 : getN (p :: es) m = some p.2 := by unfold getN; simp [h]
      rw [e1, e2]
      rfl
    · have e1 : valV (enc (p :: es)) (nk m) = valV (enc es) (nk m) := valV_neg (p := (nk p.1, V.int ((p.2 : Nat) : Int))) (fun q => h (nk_inj.mp q))
      have e2 : getN (p :: es) m = getN es m := by unfold getN; simp [h]
      rw [e1, e2, ih]
theorem enc_len (es : List (Nat × Nat)) : (enc es).length = es.length := List.length_map _
theorem putN_len (es : List (Nat × Nat)) (m c : Nat) : (putN es m c).length ≤ es.length + 1 := by
  unfold putN
  split
  · rw [List.length_map]; omega
  · rw [List.length_append]; simp
theorem enc_at {es : List (Nat × Nat)} {i : Nat} {k : L2.Key} {v : V} (h : (enc es)[i]? = some (k, v)) : ∃ m c, es[i]? = some (m, c) ∧ k = nk m ∧ v = V.int ((c : Nat) : Int) := by
  unfold enc at h
  rw [List.getElem?_map] at h
  cases e : es[i]? with
  | none => rw [e] at h; cases h
  | some p =>
    rw [e] at h
    have h := Prod.mk.inj (Option.some.inj h)
    exact ⟨p.1, p.2, rfl, h.1.symm, h.2.symm⟩
def DgR (x y : V) (Q : VK) (H : Hp) : Prop := ∃ a v, x = .ref a ∧ DGet H a y (some v) ∧ Q v H
def D2R (x : V) (Z : Addr → Prop) (H : Hp) : Prop := ∃ a, x = .ref a ∧ IsD H a ∧ Z a
def DoR (a : Addr) (y z : V) (Q : VK) (H : Hp) : Prop := ∃ o, DGet H a y o ∧ Q (o.getD z) H
def DpR (x y v : V) (Z : Hp → Prop) (H : Hp) : Prop := ∃ a H4, x = .ref a ∧ DPut H a y v H4 ∧ Z H4
def KyR (x : V) (R : It → Hp → Prop) (H1 : Hp) : Prop := ∃ d o, x = .ref d ∧ ((∃ kvs, H1 d = some (.frz o (.dK kvs)) ∧ R (Itk d o kvs) H1) ∨ ∃ kvs, H1 d = some (.frz o (.dT kvs)) ∧ R (Itkt d o kvs) H1)
def LvR (x : V) (Q : VK) (H1 : Hp) : Prop := ∃ a kvs, x = V.ref a ∧ H1 a = some (.dK kvs) ∧ ∀ p, H1 p = none → Q (.ref p) (upd H1 p (.lst (kvs.map (·.2))))
section
variable {σ : L2.St} {H : Hp} {Q : VK} {td ty tx tv : TE} {D : Ends} {a d p : Addr} {Z : Hp → Prop} {g : TG} {tb : TS} {R : It → Hp → Prop}
theorem h_dget (h : td σ H fun x H1 => ty σ H1 fun y H2 => DgR x y Q H2) : tDGet td ty σ H Q := h
theorem h_dget2 (h : td σ H fun x H1 => D2R x (fun a => ty σ H1 fun y H2 => tx σ H2 fun z H3 => DoR a y z Q H3) H1) : tDGet2 td ty tx σ H Q := h
theorem h_dput (h : tv σ H fun v H1 => td σ H1 fun x H2 => ty σ H2 fun y H3 => DpR x y v (D.nx σ) H3) : sDPut td ty tv D σ H := h
theorem h_keys (h : td σ H fun x H1 => KyR x R H1) : iKeys td σ H R := h
theorem h_lvals (h : td σ H fun x H1 => LvR x Q H1) : tListVals td σ H Q := h
theorem a_dnew (q : ∀ p H', H p = none → Same H H' → H' p = some (.dK []) → Q (.ref p) H') : tDNewK σ H Q := fun p hp => q p _ hp (Same.new hp) upd_same
theorem a_disp1 {i j : Nat} (q : ∀ p H', H p = none → Same H H' → H' p = some (.dK (enc [(i, j)])) → Q (.ref p) H') : tDisp [(tC (.int (i : Int)), tC (.int (j : Int)))] σ H Q := by
  intro p hp
  refine ⟨upd_same, [(nk i, .int (j : Int))], rfl, by simp, ?_⟩
  refine q p _ hp ?_ upd_same
  intro b u hb
  rw [upd_ne (ne_of_none hb hp), upd_ne (ne_of_none hb hp)]
  exact hb
theorem a_dget {es : List (Nat × Nat)} {m c : Nat} (h : Rd H a (.dK (enc es))) (e : getN es m = some c) (q : Q (.int (c : Int)) H) : DgR (.ref a) (.int (m : Int)) Q H :=
  ⟨a, .int (c : Int), rfl, .inl ⟨enc es, nk m, h, rfl, by rw [enc_get, e]; rfl⟩, q⟩
theorem a_d2 {es : List (Nat × Nat)} {Z : Addr → Prop} (h : H a = some (.dK (enc es))) (q : Z a) : D2R (.ref a) Z H := ⟨a, rfl, .inl ⟨_, .inl h⟩, q⟩
theorem a_do {es : List (Nat × Nat)} {m : Nat} (h : H a = some (.dK (enc es))) (q : Q (.int (((getN es m).getD 0 : Nat) : Int)) H) : DoR a (.int (m : Int)) (.int 0) Q H := by
  refine ⟨_, .inl ⟨enc es, nk m, .inl h, rfl, rfl⟩, ?_⟩
  rw [enc_get]
  cases e : getN es m with
  | none => rw [e] at q; exact q
  | some c => rw [e] at q; exact q
theorem a_dput {es : List (Nat × Nat)} {m c : Nat} (h : H a = some (.dK (enc es))) (hl : es.length < 16000000) (q : ∀ H', H' a = some (.dK (enc (putN es m c))) → (∀ b, b ≠ a → H' b = H b) → Z H') : DpR (.ref a) (.int (m : Int)) (.int (c : Int)) Z H := by
  refine ⟨a, _, rfl, .inl ⟨enc es, nk m, h, rfl, by rw [enc_len, sizeLine_eq]; omega, rfl⟩, ?_⟩
  rw [enc_put]
  exact q _ upd_same fun b hb => upd_ne hb
theorem a_lvals {es : List (Nat × Nat)} (h : H a = some (.dK (enc es))) (q : ∀ p H', H p = none → Same H H' → H' p = some (.lst (intsV (es.map (·.2)))) → Q (.ref p) H') : LvR (.ref a) Q H := by
  refine ⟨a, enc es, rfl, h, fun p hp => q p _ hp (Same.new hp) ?_⟩
  rw [upd_same]
  congr 2
  unfold enc intsV
  rw [List.map_map, List.map_map]
  rfl
theorem a_ky {o : Obj} {kvs : List (L2.Key × V)} (h : H d = some (.frz o (.dK kvs))) (q : R (Itk d o kvs) H) : KyR (.ref d) R H := ⟨d, o, rfl, .inl ⟨kvs, h, q⟩⟩
theorem fo_keys {o : Obj} {kvs : List (L2.Key × V)} (Pv : Nat → L2.St → Hp → Prop) (h0 : Pv 0 σ H) (hl : ∀ i σ H, i ≤ kvs.length → Pv i σ H → H d = some (.frz o (.dK kvs)))
    (hs : ∀ i k v σ H, kvs[i]? = some (k, v) → Pv i σ H → g (kV k) σ H fun σ2 H2 => tb { D with nx := Pv (i + 1), ct := Pv (i + 1), bk := D.nx } σ2 H2) (hd : ∀ σ H, Pv kvs.length σ H → D.nx σ H) : ForR (Itk d o kvs) g tb D σ H := by
  refine ⟨fun i m σ H => m = kvs.length - i ∧ i ≤ kvs.length ∧ Pv i σ H, ⟨kvs.length, by simp, Nat.zero_le _, h0⟩, ?_⟩
  rintro i m σ H ⟨rfl, hi, p⟩
  have q := hl i σ H hi p
  by_cases hlt : i < kvs.length
  · refine .inr ⟨⟨q, hlt⟩, Pv (i + 1), fun σ' H' p' => ⟨kvs.length - (i + 1), by omega, rfl, hlt, p'⟩, fun x H' y => ?_⟩
    obtain ⟨rfl, k, v, hk, rfl⟩ := y
    exact hs i k v σ _ hk p
  · have e : i = kvs.length := by omega
    subst e
    exact .inl ⟨⟨q, Nat.le_refl _⟩, hd σ H p⟩
theorem PairsAt.upd {l p : Addr} {ps : Lk.PL} {o o' : HO} (h : PairsAt H p ps) (hl : H l = some o) (n1 : ∀ xs, o ≠ .lst xs) (n2 : ∀ xs, o ≠ .tup xs) : PairsAt (upd H l o') p ps := by
  obtain ⟨xs, h1, h2, h3⟩ := h.ex
  refine ⟨xs, by rw [upd_ne (ne_of h1 hl (fun q => n1 xs q.symm))]; exact h1, h2, fun i o hi => ?_⟩
  obtain ⟨v, hv, pv⟩ := h3 i o hi
  refine ⟨v, hv, ?_⟩
  rcases pv with pv | ⟨x, y, t, e1, e2, e3⟩
  · exact .inl pv
  · exact .inr ⟨x, y, t, e1, e2, by rw [upd_ne (ne_of e3 hl (fun q => n2 _ q.symm))]; exact e3⟩
end
end Lw
set_option Elab.async false
set_option linter.all false
set_option maxRecDepth 100000
set_option maxHeartbeats 4000000
namespace Lw
open PySem PySem.Spec PyProof.Rows L2
local macro_rules | `(tactic| walk_at "h") => `(tactic| first | assumption | (refine (by assumption : Same _ _) _ _ ?_; walk_at "h"))
local macro_rules | `(tactic| walk_at "g1") => `(tactic| first
  | with_reducible refine g_seq ?_ | with_reducible refine g_asg ?_ | with_reducible refine g_name ?_ | with_reducible refine g_drop ?_ | with_reducible refine g_ret ?_ | with_reducible refine g_retN ?_
  | with_reducible refine g_next ?_ | with_reducible refine g_brk ?_ | with_reducible refine g_cont ?_ | with_reducible refine g_if ?_ | ((with_reducible show tVar _ _ _ _); refine ⟨_, rfl, ?_⟩) | with_reducible refine g_c ?_
  | with_reducible refine g_op ?_ | with_reducible refine g_un ?_ | with_reducible refine g_ifE ?_ | with_reducible refine g_test ?_ | with_reducible refine g_B ?_ | with_reducible refine g_and ?_ | with_reducible refine g_or ?_ | with_reducible refine g_not ?_
  | with_reducible refine g_andV ?_ | with_reducible refine g_orV ?_ | with_reducible refine g_notV ?_ | with_reducible refine g_nil ?_ | with_reducible refine g_cons ?_ | with_reducible refine g_cb ?_ | with_reducible refine g_f ?_
  | with_reducible refine g_bl ?_ | with_reducible refine g_blV ?_ | with_reducible refine g_part ?_ | with_reducible refine g_nopart ?_ | with_reducible refine g_sl ?_ | with_reducible refine g_intx ?_
  | with_reducible refine r_i0 ?_ | with_reducible refine r_eqi ?_ | with_reducible refine r_nei ?_ | with_reducible refine r_u ?_
  | with_reducible refine r_isN_non ?_ | with_reducible refine r_isN_ref ?_ | with_reducible refine r_isN_int ?_ | with_reducible refine r_notN_non ?_ | with_reducible refine r_notN_ref ?_
  | with_reducible refine h_lc ?_ | with_reducible refine h_for ?_ | with_reducible refine h_rng1 ?_ | with_reducible refine h_rng2 ?_ | with_reducible refine h_ilist ?_ | with_reducible refine h_lst ?_ | with_reducible refine h_tup ?_
  | with_reducible refine h_fld ?_ | with_reducible refine h_m ?_ | with_reducible refine g_sm ?_ | with_reducible refine g_cm ?_ | with_reducible refine h_mk ?_ | with_reducible refine g_chain ?_ | with_reducible refine g_asgsub ?_ | with_reducible refine g_sfld ?_
  | with_reducible refine g_bm ?_ | with_reducible refine g_bm0 ?_
  | ((with_reducible refine' r_tup0 ?gh ?_); (case gh => walk_at "h")) | ((with_reducible refine' r_tup1 ?gh ?_); (case gh => walk_at "h"))
  | ((with_reducible refine' And.intro (ty_lst ?gh) ?_); (case gh => walk_at "h"))
  | with_reducible refine h_lrg ?_ | with_reducible refine h_rg1 ?_ | with_reducible refine h_rg2 ?_ | with_reducible refine g_int2 ?_ | with_reducible refine h_sfld ?_ | with_reducible refine h_augx rfl ?_ | with_reducible refine h_tru ?_ | with_reducible refine g_ipI ?_ | with_reducible refine h_enum ?_ | with_reducible refine h_enumS ?_ | with_reducible refine h_m1 ?_ | with_reducible refine g_isS ?_ | with_reducible refine h_m0 ?_ | with_reducible refine h_mS ?_ | with_reducible refine h_dget ?_ | with_reducible refine h_dget2 ?_ | with_reducible refine h_dput ?_ | with_reducible refine h_keys ?_ | with_reducible refine h_lvals ?_ | with_reducible refine h_nodeX ?_ | with_reducible refine h_cval ?_
  | with_reducible refine i_true ?_ | with_reducible refine i_false ?_ | with_reducible refine i_nt ?_ | with_reducible refine i_nf ?_)
local macro_rules | `(tactic| walk_at "go") => `(tactic| ((repeat' walk_at "g1"); (try dsimp only)))
section
variable {P : Program} {w : World} {K : PySem.W.Frag} {mg : Str → Option Value} {base : Heap}
theorem sc_law_counted : FnScope ["_law_pairs", "_law_outs", "_law_bits", "_law_bit", "_law_node_here", "_law_level", "_law_turn", "_law_later", "_law_done", "_law_above", "_law_mask", "_law_v"] ["_law_pairs"] (defScope s_law_counted) := ⟨rfl, rfl, rfl, by decide +kernel, rfl, by decide +kernel, by decide +kernel⟩
theorem bd_law_counted : BindsP "_law_counted" "_law_counted" s_law_counted ["_law_pairs"] := fun _ _ _ _ _ _ us hl => match us, hl with | [_], _ => rfl
def sp_law_counted : Sp := fun vs H Q _ => ∃ (p : Addr) (ps : Lk.PL) (n : Nat), vs = [.ref p] ∧ PairsAt H p ps ∧ Lk.OK n ps ∧ n ≤ 60 ∧ (outsN n ps).length ≤ 7 ∧ ∀ H', Same H H' → Q (.int (hookZ n ps)) H'
/-- the masks of one level -/
structure Lev (n : Nat) (ps : Lk.PL) (t : Nat) (es : List (Nat × Nat)) : Prop where
  nd : (keysN es).Nodup
  vl : ∀ m ∈ keysN es, Vl n ps t m
theorem Lev.put {n : Nat} {ps : Lk.PL} {t : Nat} {es : List (Nat × Nat)} (h : Lev n ps t es) {m c : Nat} (v : Vl n ps t m) : Lev n ps t (putN es m c) := ⟨put_nodup h.nd, fun k hk => by
  rcases (put_keys k).mp hk with q | q
  · exact h.vl k q
  · rw [q]; exact v⟩
theorem take_wsum (F : Nat → Nat) {es : List (Nat × Nat)} {i m c : Nat} (h : es[i]? = some (m, c)) : wsum F (es.take (i + 1)) = wsum F (es.take i) + c * F m := by
  rw [take_succ h]
  unfold wsum
  rw [List.map_append, List.sum_append]
  simp
theorem take_filt (f : Nat → Bool) (F : Nat → Nat) {os : List Nat} {j x : Nat} (h : os[j]? = some x) : (((os.take (j + 1)).filter f).map F).sum = (((os.take j).filter f).map F).sum + (if f x = true then F x else 0) := by
  rw [take_succ h, List.filter_append, List.map_append, List.sum_append]
  congr 1
  rw [List.filter_cons]
  split <;> simp
set_option maxHeartbeats 4000000 in
theorem ok_law_counted (T : Tx K mg) : FnR P w K mg base CX0 2 (He.ga K "_law_counted") (sp_law_counted ) := by
  refine (T.F_law_counted).ok sc_law_counted bd_law_counted (fun vs H Q E h => ?_) (fun cdv A outer s H vs Q E hr h => ?_)
  · obtain ⟨p, ps, n, rfl, _⟩ := h
    rfl
  · obtain ⟨p, ps, n, rfl, hp, o, hn, hk, q⟩ := h
    have hl := o.len
    refine ⟨_, (pss_cons (ps_setLc (own := [("_law_v", 11)]) (g := gName 11) (i := 1) rfl sc_law_counted.nd rfl rfl (sw_true rfl rfl rfl (by decide +kernel)) (pi_range1 rfl T.n_range (pa_cons (pe_callB (lenK (K := K) rfl) (by rfl) T.n_len PySem.boot_len (pa_cons (pv 0) pa_nil)) pa_nil)) (blkOk_by (own := [("_law_v", 11)]) (N := ["_law_pairs", "_law_outs", "_law_bits", "_law_bit", "_law_node_here", "_law_level", "_law_turn", "_law_later", "_law_done", "_law_above", "_law_mask", "_law_v"]) (sc := defScope s_law_counted) (by decide +kernel)) (fun _ _ _ _ _ => pg_name (i := 11) sc_law_counted.nd rfl (Or.inl rfl)) (fun _ _ _ _ _ => (pts_one (pt_cmpR op_notN1 (pe_ix (ixl (K := K) rfl) (pv 0) (pv 11) (fun _ _ => rfl)) pe_non (nomark _)))) (fun _ _ _ _ _ => (pv 11))) (pss_cons (ps_set (i := 2) sc_law_counted.nd rfl (by first | exact Or.inl rfl | exact Or.inr rfl) (pe_disp (pps_cons pe_int pe_int pps_nil) (by rfl) (by rfl) (fun z => by cases z) (by decide))) (pss_cons (ps_set (i := 3) sc_law_counted.nd rfl (by first | exact Or.inl rfl | exact Or.inr rfl) pe_int) (pss_cons (ps_for PassesOwn.never rfl (pilK (K := K) rfl (pv 1)) (pg_name (i := 4) sc_law_counted.nd rfl (by first | exact Or.inl rfl | exact Or.inr rfl)) (pss_cons (ps_dput (hu_of hr) (pv 2) (pv 4) (pv 3) rfl) (pss_one (ps_set (i := 3) sc_law_counted.nd rfl (by first | exact Or.inl rfl | exact Or.inr rfl) (pe_op op_mul (pv 3) pe_int))))) (pss_cons (ps_set (i := 5) sc_law_counted.nd rfl (by first | exact Or.inl rfl | exact Or.inr rfl) (pe_disp (pps_cons pe_int pe_int pps_nil) (by rfl) (by rfl) (fun z => by cases z) (by decide))) (pss_cons (ps_for PassesOwn.never rfl (pi_range1 rfl T.n_range (pa_cons (pe_callB (lenK (K := K) rfl) (by rfl) T.n_len PySem.boot_len (pa_cons (pv 1) pa_nil)) pa_nil)) (pg_name (i := 6) sc_law_counted.nd rfl (by first | exact Or.inl rfl | exact Or.inr rfl)) (pss_cons (ps_set (i := 7) sc_law_counted.nd rfl (by first | exact Or.inl rfl | exact Or.inr rfl) pe_dnewK) (pss_cons (ps_lock (ps_for PassesOwn.never rfl (pi_keys (pv 5)) (pg_name (i := 8) sc_law_counted.nd rfl (by first | exact Or.inl rfl | exact Or.inr rfl)) (pss_one (ps_for PassesOwn.never rfl (pilK (K := K) rfl (pv 1)) (pg_name (i := 4) sc_law_counted.nd rfl (by first | exact Or.inl rfl | exact Or.inr rfl)) (pss_cons (ps_set (i := 9) sc_law_counted.nd rfl (by first | exact Or.inl rfl | exact Or.inr rfl) (pe_dget (hu_of hr) (pv 2) (pe_f (ok_law_parent (K := K) T) (hr.mono (by decide)) rfl T.g_law_parent T.k_law_parent pass0 (pa_cons (pv 0) (pa_cons (pv 4) pa_nil))) (fun _ _ => rfl))) (pss_one (ps_if (PW.pt (pw_and (pt_cmpR op_eq (pe_op op_and (pv 8) (pe_dget (hu_of hr) (pv 2) (pv 4) (fun _ _ => rfl))) pe_int (nomark _)) (pw_and1 (pt_cmpR op_eq (pe_op op_and (pv 8) (pv 9)) (pv 9) (nomark _))))) (pss_cons (ps_set (i := 10) sc_law_counted.nd rfl (by first | exact Or.inl rfl | exact Or.inr rfl) (pe_op op_add (pv 8) (pe_dget (hu_of hr) (pv 2) (pv 4) (fun _ _ => rfl)))) (pss_one (ps_dput (hu_of hr) (pv 7) (pv 10) (pe_op op_add (pe_dget2 (hu_of hr) (pv 7) (pv 10) pe_int ⟨rfl, rfl, rfl, rfl⟩) (pe_dget (hu_of hr) (pv 5) (pv 8) (fun _ _ => rfl))) rfl))) pss_nil))))))) (pss_one (ps_set (i := 5) sc_law_counted.nd rfl (by first | exact Or.inl rfl | exact Or.inr rfl) (pv 7)))))) (pss_one (ps_ret (pe_callB (sumK (K := K) rfl rfl) (by rfl) T.n_sum (by decide +kernel) (pa_cons (pe_listVals rfl (by rfl) T.n_list (pv 5)) pa_nil)))))))))), ?_⟩
    walk_at "go"
    refine a_plen hp ?_
    walk_at "go"
    refine a_r1 ps.length rfl (by omega) ?_
    refine l_rN (outB ps) (fun i => .int (i : Int)) (by omega) (fun _ => rfl) (fun i H1 _ hi e R k => ?_) (fun i H1 _ hi e hf R k => ?_) (fun D H1 hD e1 hd => ?_)
    · walk_at "go"
      exact e_notN (hp.mono e) (by omega) ⟨_, rfl, k H1 (Same.refl _)⟩
    · walk_at "go"
      exact k H1 (Same.refl _)
    have hd : H1 D = some (.lst (intsV (outsN n ps))) := by rw [← outs_eq o, ← hl]; exact hd
    have mem : ∀ x, x ∈ outsN n ps → Lk.at_ ps x ≠ none := fun x => (outsN_mem o).mp
    have nd := outsN_nodup n ps
    walk_at "go"
    refine a_disp1 (i := 0) (j := 0) fun bp H2 hbp e2 h2 => ?_
    walk_at "go"
    have nD : H D = none := hD
    have nb : H bp = none := e1.free hbp
    have nbD : D ≠ bp := ne_of_none hd hbp
    refine a_il (e2 _ _ hd) ?_
    refine fo_list (xs := intsV (outsN n ps)) (fun i σ H' => ∃ (v4 : Option V) (bs : List (Nat × Nat)), σ = [some (.ref p), some (.ref D), some (.ref bp), some (.int ((2 ^ i : Nat) : Int)), v4, none, none, none, none, none, none, none] ∧ Same H H' ∧
        H' D = some (.lst (intsV (outsN n ps))) ∧ H' bp = some (.dK (enc bs)) ∧ bs.length ≤ i + 1 ∧ getN bs 0 = some 0 ∧ ∀ j y, j < i → (outsN n ps)[j]? = some y → getN bs y = some (2 ^ j))
      ⟨none, [(0, 0)], rfl, e1.trans e2, e2 _ _ hd, h2, by simp, rfl, fun j y hj => by omega⟩ (fun i σ H' _ ⟨_, _, _, _, e, _⟩ => SqL.of e) ?_ ?_
    · rintro i x σ H3 hi ⟨v4, bs, rfl, e3, hd3, hb3, hbl, hb0, hbs⟩
      obtain ⟨y, hy, rfl⟩ := intsV_of hi
      have hout := mem y (List.mem_of_getElem? hy)
      have hpos := o.pos hout
      have hi7 := (List.getElem?_eq_some_iff.mp hy).1
      walk_at "go"
      refine a_dput hb3 (by omega) fun H4 hb4 b4 => ?_
      walk_at "go"
      refine r_i (.inr ⟨by decide, by decide⟩) ?_
      have get_put : ∀ k c, getN (putN bs y c) k = if k = y then some c else getN bs k := fun k c => by
        have h1 := enc_get k (putN bs y c)
        rw [← enc_put, valV_put, enc_get] at h1
        by_cases e : k = y
        · rw [if_pos (nk_inj.mpr e)] at h1
          rw [if_pos e]
          cases hz : getN (putN bs y c) k with
          | none => rw [hz] at h1; cases h1
          | some c' =>
            rw [hz] at h1
            have h2 := V.int.inj (Option.some.inj h1)
            have : c' = c := by omega
            rw [this]
        · rw [if_neg (fun z => e (nk_inj.mp z))] at h1
          rw [if_neg e]
          cases hz : getN (putN bs y c) k with
          | none =>
            rw [hz] at h1
            cases hw : getN bs k with
            | none => rfl
            | some c' => rw [hw] at h1; cases h1
          | some c' =>
            rw [hz] at h1
            cases hw : getN bs k with
            | none => rw [hw] at h1; cases h1
            | some c'' =>
              rw [hw] at h1
              have h2 := V.int.inj (Option.some.inj h1)
              have : c' = c'' := by omega
              rw [this]
      refine ⟨some (.int (y : Int)), putN bs y (2 ^ i), ?_, Same.but e3 nb b4, by rw [b4 D nbD]; exact hd3, hb4, by have := putN_len bs y (2 ^ i); omega, ?_, fun j z hj hz => ?_⟩
      · have e : ((2 ^ i : Nat) : Int) * 2 = ((2 ^ (i + 1) : Nat) : Int) := by rw [Nat.pow_succ, Int.natCast_mul]; rfl
        rw [e]
        rfl
      · rw [get_put, if_neg (by omega)]
        exact hb0
      · rw [get_put]
        by_cases e : z = y
        · subst e
          have ej : j = i := (List.getElem?_inj (List.getElem?_eq_some_iff.mp hz).1 nd).mp (hz.trans hy.symm)
          rw [if_pos rfl, ej]
        · rw [if_neg e]
          refine hbs j z ?_ hz
          rcases Nat.lt_or_eq_of_le (Nat.le_of_lt_succ hj) with q | q
          · exact q
          · rw [q, hy] at hz
            exact absurd (Option.some.inj hz).symm e
    rintro σ H3 ⟨v4, bs, rfl, e3, hd3, hb3, hbl, hb0, hbs⟩
    rw [intsV_len] at hbs
    have bits : ∀ y, y ∈ outsN n ps → getN bs y = some (bb n ps y) := fun y hy => by
      have h1 := idx_lt hy
      rw [bb_in hy]
      exact hbs _ y h1 (by rw [List.getElem?_eq_getElem h1, List.getElem_idxOf])
    have bitp : ∀ y, y ∈ outsN n ps → getN bs (Lk.par ps y) = some (bb n ps (Lk.par ps y)) := fun y hy => by
      by_cases h0 : Lk.par ps y = 0
      · rw [h0, bb_zero o]; exact hb0
      · exact bits _ ((outsN_mem o).mpr (o.par_out (mem y hy) h0).1)
    walk_at "go"
    refine a_disp1 (i := 0) (j := 1) fun lv H4 hlv e4 h4 => ?_
    walk_at "go"
    refine a_len (e4 _ _ hd3) ?_
    rw [intsV_len]
    walk_at "go"
    refine a_r1 (outsN n ps).length rfl (by omega) ?_
    refine fo_rN (fun t σ H' => ∃ (bv v4 : V) (v4' v6 v7 v8 v9 v10 : Option V) (lv : Addr) (es : List (Nat × Nat)), σ = [some (.ref p), some (.ref D), some (.ref bp), some bv, v4', some (.ref lv), v6, v7, v8, v9, v10, none] ∧ Same H H' ∧ H lv = none ∧ lv ≠ bp ∧
        H' D = some (.lst (intsV (outsN n ps))) ∧ H' bp = some (.dK (enc bs)) ∧ H' lv = some (.dK (enc es)) ∧ es.length ≤ 7 ^ t ∧ Lev n ps t es ∧ wsum (fun m => qN n (cl n ps m)) es = qN n ps)
      ⟨_, .non, _, none, none, none, none, none, lv, [(0, 1)], rfl, e3.trans e4, e3.free hlv, (ne_of_none hb3 hlv).symm, e4 _ _ hd3, e4 _ _ hb3, h4, by simp, ⟨by simp [keysN], fun m hm => by
        have : m = 0 := by simpa [keysN] using hm
        rw [this]; exact Vl.zero o⟩, by simp [wsum, cl_zero]⟩ ?_ ?_
    · rintro t σ H5 ht ⟨bv, v4, v4', v6, v7, v8, v9, v10, lv, es, rfl, e5, nlv, nlb, hd5, hb5, hl5, hel, lev, hsum⟩
      walk_at "go"
      refine a_dnew fun lt H6 hlt e6 h6 => ?_
      walk_at "go"
      have hl6 := e6 _ _ hl5
      have nlt : H lt = none := e5.free hlt
      have n1 : lv ≠ lt := ne_of_none hl5 hlt
      have n2 : bp ≠ lt := ne_of_none hb5 hlt
      have n3 : D ≠ lt := ne_of_none hd5 hlt
      have n4 : D ≠ lv := fun z => by rw [z] at hd5; rw [hd5] at hl5; cases hl5
      refine ⟨lv, .dK (enc es), hl6, trivial, fun od => ?_⟩
      have e7 : Same H (upd H6 lv (.frz od (.dK (enc es)))) := Same.mut (e5.trans e6) nlv
      have hl7 : upd H6 lv (.frz od (.dK (enc es))) lv = some (.frz od (.dK (enc es))) := upd_same
      have hd7 : upd H6 lv (.frz od (.dK (enc es))) D = some (.lst (intsV (outsN n ps))) := by rw [upd_ne n4]; exact e6 _ _ hd5
      have hb7 : upd H6 lv (.frz od (.dK (enc es))) bp = some (.dK (enc bs)) := by rw [upd_ne nlb.symm]; exact e6 _ _ hb5
      have ht7 : upd H6 lv (.frz od (.dK (enc es))) lt = some (.dK (enc [])) := by rw [upd_ne n1.symm]; exact h6
      generalize upd H6 lv (.frz od (.dK (enc es))) = H7 at e7 hl7 hd7 hb7 ht7
      walk_at "go"
      refine a_ky hl7 ?_
      have pow7 : 7 ^ t * 7 ≤ 823543 := by
        have : 7 ^ t ≤ 7 ^ 6 := Nat.pow_le_pow_right (by decide) (by omega)
        have e : (7 : Nat) ^ 6 = 117649 := by decide
        omega
      refine fo_keys (fun i σ H' => ∃ (v4 v8 v9 v10 : Option V) (fs : List (Nat × Nat)), σ = [some (.ref p), some (.ref D), some (.ref bp), some bv, v4, some (.ref lv), some (.int ((0 + t : Nat) : Int)), some (.ref lt), v8, v9, v10, none] ∧ Same H H' ∧
          H' D = some (.lst (intsV (outsN n ps))) ∧ H' bp = some (.dK (enc bs)) ∧ H' lv = some (.frz od (.dK (enc es))) ∧ H' lt = some (.dK (enc fs)) ∧ fs.length ≤ 7 * i ∧ Lev n ps (t + 1) fs ∧ wsum (fun m => qN n (cl n ps m)) fs = wsum (fun m => qN n (cl n ps m)) (es.take i))
        ⟨_, _, _, _, [], rfl, e7, hd7, hb7, hl7, ht7, Nat.le_refl _, ⟨List.nodup_nil, fun m hm => by cases hm⟩, rfl⟩ (fun i σ H' _ ⟨_, _, _, _, _, _, _, _, _, e, _⟩ => e) ?_ ?_
      · rintro i k v σ H8 hi ⟨v4, v8, v9, v10, fs, rfl, e8, hd8, hb8, hl8, ht8, hfl, flev, fsum⟩
        obtain ⟨m, c, hmc, rfl, rfl⟩ := enc_at hi
        have hmk : m ∈ keysN es := List.mem_map.mpr ⟨(m, c), List.mem_of_getElem? hmc, rfl⟩
        have hvl := lev.vl m hmk
        have hil := (List.getElem?_eq_some_iff.mp hmc).1
        have e1i : 7 * i + 7 ≤ 7 * es.length := by omega
        have e2i : 7 * es.length ≤ 823543 := by omega
        show gName 8 (.int ((m : Nat) : Int)) _ H8 _
        walk_at "go"
        refine a_il hd8 ?_
        refine fo_list (xs := intsV (outsN n ps)) (fun j σ H' => ∃ (v4 v9 v10 : Option V) (fs : List (Nat × Nat)), σ = [some (.ref p), some (.ref D), some (.ref bp), some bv, v4, some (.ref lv), some (.int ((0 + t : Nat) : Int)), some (.ref lt), some (.int ((m : Nat) : Int)), v9, v10, none] ∧ Same H H' ∧
            H' D = some (.lst (intsV (outsN n ps))) ∧ H' bp = some (.dK (enc bs)) ∧ H' lv = some (.frz od (.dK (enc es))) ∧ H' lt = some (.dK (enc fs)) ∧ fs.length ≤ 7 * i + j ∧ Lev n ps (t + 1) fs ∧
            wsum (fun m => qN n (cl n ps m)) fs = wsum (fun m => qN n (cl n ps m)) (es.take i) + c * ((((outsN n ps).take j).filter (topB (cl n ps m))).map fun x => qN n (Lk.rel (cl n ps m) x)).sum)
          ⟨v4, v9, v10, fs, rfl, e8, hd8, hb8, hl8, ht8, hfl, flev, by simpa using fsum⟩ (fun j σ H' _ ⟨_, _, _, _, _, _, e, _⟩ => SqL.of e) ?_ ?_
        · rintro j x σ H9 hj ⟨v4, v9, v10, fs, rfl, e9, hd9, hb9, hl9, ht9, hfl, flev, fsum⟩
          obtain ⟨y, hy, rfl⟩ := intsV_of hj
          have hym := List.mem_of_getElem? hy
          have hout := mem y hym
          have hj7 := (List.getElem?_eq_some_iff.mp hy).1
          obtain ⟨a, b, ey⟩ := Lk.ne_none hout
          walk_at "go"
          refine ⟨p, ps, y, a, b, rfl, hp.mono e9, OKBd o, ey, ?_⟩
          refine a_dget (.inl hb9) (bitp y hym) ?_
          walk_at "go"
          refine a_dget (.inl hb9) (bits y hym) ?_
          walk_at "go"
          have ct := cond_top o hk hvl hym
          have no : ¬ Lk.isTop (cl n ps m) y → ∃ (v4' v9' v10' : Option V) (fs' : List (Nat × Nat)), ([some (.ref p), some (.ref D), some (.ref bp), some bv, some (.int ((y : Nat) : Int)), some (.ref lv), some (.int ((0 + t : Nat) : Int)), some (.ref lt), some (.int ((m : Nat) : Int)), some (.int ((bb n ps (Lk.par ps y) : Nat) : Int)), v10, none] : L2.St) = [some (.ref p), some (.ref D), some (.ref bp), some bv, v4', some (.ref lv), some (.int ((0 + t : Nat) : Int)), some (.ref lt), some (.int ((m : Nat) : Int)), v9', v10', none] ∧ Same H H9 ∧
            H9 D = some (.lst (intsV (outsN n ps))) ∧ H9 bp = some (.dK (enc bs)) ∧ H9 lv = some (.frz od (.dK (enc es))) ∧ H9 lt = some (.dK (enc fs')) ∧ fs'.length ≤ 7 * i + (j + 1) ∧ Lev n ps (t + 1) fs' ∧
            wsum (fun m => qN n (cl n ps m)) fs' = wsum (fun m => qN n (cl n ps m)) (es.take i) + c * ((((outsN n ps).take (j + 1)).filter (topB (cl n ps m))).map fun x => qN n (Lk.rel (cl n ps m) x)).sum := fun nt => by
            refine ⟨_, _, _, fs, rfl, e9, hd9, hb9, hl9, ht9, by omega, flev, ?_⟩
            rw [take_filt (topB (cl n ps m)) (fun x => qN n (Lk.rel (cl n ps m) x)) hy, if_neg (fun z => nt (topB_iff.mp z)), Nat.add_zero]
            exact fsum
          refine i_dec (fun c1 => ?_) (fun c1 => ?_)
          · walk_at "go"
            refine i_dec (fun c2 => ?_) (fun c2 => ?_)
            · have top := ct.mp ⟨c1, c2⟩
              walk_at "go"
              refine a_dget (.inl hb9) (bits y hym) ?_
              walk_at "go"
              rw [bb_in hym]
              have em : ((m : Nat) : Int) + ((2 ^ ((outsN n ps).idxOf y) : Nat) : Int) = ((m + 2 ^ ((outsN n ps).idxOf y) : Nat) : Int) := by omega
              rw [em]
              refine a_d2 ht9 ?_
              walk_at "go"
              refine a_do ht9 ?_
              walk_at "go"
              refine a_dget (.inr ⟨od, hl9⟩) (getN_at lev.nd hmc) ?_
              walk_at "go"
              have ec : (((getN fs (m + 2 ^ ((outsN n ps).idxOf y))).getD 0 : Nat) : Int) + ((c : Nat) : Int) = (((getN fs (m + 2 ^ ((outsN n ps).idxOf y))).getD 0 + c : Nat) : Int) := by omega
              rw [ec]
              refine a_dput ht9 (by omega) fun H10 ht10 b10 => ?_
              have vs' := hvl.step o hk top
              refine ⟨_, _, _, _, rfl, Same.but e9 nlt b10, by rw [b10 D n3]; exact hd9, by rw [b10 bp n2]; exact hb9, by rw [b10 lv n1]; exact hl9, ht10, by have := putN_len fs (m + 2 ^ ((outsN n ps).idxOf y)) ((getN fs (m + 2 ^ ((outsN n ps).idxOf y))).getD 0 + c); omega, flev.put vs', ?_⟩
              rw [wsum_put _ flev.nd, fsum, take_filt (topB (cl n ps m)) (fun x => qN n (Lk.rel (cl n ps m) x)) hy, if_pos (topB_iff.mpr top), cl_rel o hk hvl top, Nat.mul_add, Nat.add_assoc]
            · walk_at "go"
              exact no fun top => c2 (ct.mpr top).2
          · walk_at "go"
            exact no fun top => c1 (ct.mpr top).1
        · rintro σ H9 ⟨v4, v9, v10, fs, rfl, e9, hd9, hb9, hl9, ht9, hfl, flev, fsum⟩
          rw [intsV_len] at hfl fsum
          refine ⟨_, _, _, _, fs, rfl, e9, hd9, hb9, hl9, ht9, by omega, flev, ?_⟩
          rw [fsum, List.take_length, tops_cl o, take_wsum _ hmc]
          have hne : outsN n (cl n ps m) ≠ [] := fun z => by
            have := hvl.cnt
            rw [z] at this
            simp at this
            omega
          rw [← hook_sum hvl.ok hne]
      · rintro σ H8 ⟨v4, v8, v9, v10, fs, rfl, e8, hd8, hb8, hl8, ht8, hfl, flev, fsum⟩
        rw [enc_len] at hfl fsum
        rw [List.take_length] at fsum
        refine ⟨hl8, ?_⟩
        walk_at "go"
        refine ⟨bv, .non, _, _, _, _, _, _, lt, fs, rfl, Same.mut e8 nlv, nlt, n2.symm, by rw [upd_ne n4]; exact hd8, by rw [upd_ne nlb.symm]; exact hb8, by rw [upd_ne n1.symm]; exact ht8, ?_, flev, by rw [fsum]; exact hsum⟩
        rw [Nat.pow_succ]
        omega
    · rintro σ H5 ⟨bv, v4, v4', v6, v7, v8, v9, v10, lv, es, rfl, e5, nlv, nlb, hd5, hb5, hl5, hel, lev, hsum⟩
      walk_at "go"
      refine a_lvals hl5 fun sp H6 hsp e6 h6 => ?_
      refine ⟨sp, (es.map (·.2)).map fun k : Nat => (k : Int), rfl, by rw [← intsV_map]; exact SqL.of h6, ?_⟩
      have q := q H6 (e5.trans e6)
      rw [hookZ_qN, ← hsum] at q
      have es1 : ((es.map (·.2)).map fun k : Nat => (k : Int)).sum = ((wsum (fun m => qN n (cl n ps m)) es : Nat) : Int) := by
        have one : ∀ m ∈ keysN es, qN n (cl n ps m) = 1 := fun m hm => by
          have v := lev.vl m hm
          refine q_empty v.ok (List.length_eq_zero_iff.mp ?_)
          have := v.cnt
          omega
        have gen : ∀ l : List (Nat × Nat), (∀ m ∈ keysN l, qN n (cl n ps m) = 1) → ((l.map (·.2)).map fun k : Nat => (k : Int)).sum = ((wsum (fun m => qN n (cl n ps m)) l : Nat) : Int) := by
          intro l
          induction l with
          | nil => intro _; rfl
          | cons x l ih =>
            intro h
            have h1 : (fun m => qN n (cl n ps m)) x.1 = 1 := h x.1 (List.mem_cons_self ..)
            have h2 := ih fun m hm => h m (List.mem_cons_of_mem _ hm)
            unfold wsum at h2 ⊢
            rw [List.map_cons, List.map_cons, List.sum_cons, h2, List.map_cons, List.sum_cons, h1, Nat.mul_one, Int.natCast_add]
        exact gen es one
      rw [es1]
      exact q
end
end Lw
set_option Elab.async false
set_option linter.all false
set_option maxRecDepth 100000
set_option maxHeartbeats 4000000
namespace Lw
open PySem PySem.Spec PyProof.Rows L2
def dts (ns : List Nat) : List PyData := ns.map fun k : Nat => PyData.int (k : Int)
theorem dts_lay : ∀ ns : List Nat, PyData.canLayAll0 (dts ns) = true
  | [] => rfl
  | k :: ns => by
    show PyData.canLayAll0 (PyData.int (k : Int) :: dts ns) = true
    rw [PyData.canLayAll0, dts_lay ns]
    rfl
theorem dts_dep : ∀ ns : List Nat, PyData.depthAll (dts ns) ≤ 1
  | [] => by first | decide | simp [dts, PyData.depthAll]
  | k :: ns => by
    have ih := dts_dep ns
    show PyData.depthAll (PyData.int (k : Int) :: dts ns) ≤ 1
    rw [PyData.depthAll]
    have e : (PyData.int (k : Int)).depth ≤ 1 := by first | decide | simp [PyData.depth]
    omega
theorem dts_shaped (ns : List Nat) : SeqAt.shaped (.list (dts ns)) = true := by
  unfold SeqAt.shaped
  have h1 : (PyData.list (dts ns)).canLay0 = true := by
    rw [PyData.canLay0]
    exact dts_lay ns
  have h2 : (PyData.list (dts ns)).depth ≤ 64 := by
    have := dts_dep ns
    rw [PyData.depth]
    omega
  rw [h1, decide_eq_true h2]
  rfl
theorem dts_all {K : PySem.W.Frag} {H : Hp} : ∀ ns : List Nat, DpAll K H (intsV ns) (dts ns)
  | [] => .nil
  | k :: ns => .cons (.int _) (dts_all ns)
theorem dts_nil (ns : List Nat) : PyData.eqv (.list (dts ns)) (.list (dts [])) = decide (ns = []) := by
  cases ns with
  | nil => rfl
  | cons k ns =>
    rw [decide_eq_false (by simp)]
    first
      | rfl
      | simp [PyData.eqv, PyData.eqvAll, dts]
section
variable {K : PySem.W.Frag} {H : Hp} {Q : VK} {a b : Addr} {ns : List Nat}
theorem a_eqNil (ha : H a = some (.lst (intsV ns))) (hb : H b = some (.lst [])) (q : Q (.bl (decide (ns = []))) H) : rEqD K (.ref a) (.ref b) H Q :=
  ⟨.list (dts ns), .list (dts []), .lst (SqL.of ha) (dts_all ns), .lst (SqL.of hb) .nil, dts_shaped ns, dts_shaped [], by rw [dts_nil]; exact q⟩
theorem a_neNil (ha : H a = some (.lst (intsV ns))) (hb : H b = some (.lst [])) (q : Q (.bl (!decide (ns = []))) H) : rNeD K (.ref a) (.ref b) H Q :=
  ⟨.list (dts ns), .list (dts []), .lst (SqL.of ha) (dts_all ns), .lst (SqL.of hb) .nil, dts_shaped ns, dts_shaped [], by rw [dts_nil]; exact q⟩
end
theorem a_isF {P : Program} {K : PySem.W.Frag} {mg : Str → Option Value} (T : Tx K mg) (B : Bx P K mg) {H : Hp} {Q : VK} {n : Nat} {f : Addr} {ps : Lk.PL} (h : ForestAt K H f n ps) (q : Q (.bl true) H) : rIsi K [.ref f, .ref (He.ga K "Forest")] H Q := by
  obtain ⟨dx, l, pq, hf⟩ := h
  exact ⟨_, _, _, _, true, rfl, .own _, .base (.ins hf.obj T.cForest B.clF B.spF B.tkF B.mrF), B.isF, q⟩
theorem a_negrow {H : Hp} {l : Addr} {xs : List V} {v : V} {R : Hp → Prop} (h : H l = some (.lst xs)) (hk : 0 < xs.length) (q : ∀ H', H' l = some (.lst (xs.set 0 v)) → (∀ b, b ≠ l → H' b = H b) → R H') : rSetL (.ref l) (.int 0) v H R := a_set (k := 0) h hk q
end Lw
namespace Lk
variable {n : Nat} {ps : PL}
/-! ### down a chain -/
theorem OK.par_rel (o : OK n ps) {t y : Nat} (ht : isTop ps t) (hy : at_ ps y ≠ none) (ne : y ≠ t) : par (Lk.rel ps t) y = if par ps y = t then 0 else par ps y := by
  obtain ⟨a, b, e⟩ := ne_none hy
  obtain ⟨c, d, et, hc, hd⟩ := ht
  have hto : at_ ps t ≠ none := by rw [et]; simp
  have hp := o.pos hto
  have at' : ∀ z, at_ (Lk.rel ps t) z = if z = t then none else at_ ps z := fun z => Lw.rel_at o hto
  have e' : at_ (Lk.rel ps t) y = some (a, b) := by rw [at', if_neg ne]; exact e
  have r := o.rng e
  rw [par_eq e']
  rcases o.par_or e with ⟨h0, ha, hb⟩ | ⟨f, g, q⟩
  · have na : at_ (Lk.rel ps t) a = none := by rw [at']; split <;> first | rfl | exact ha
    have nb : at_ (Lk.rel ps t) b = none := by rw [at']; split <;> first | rfl | exact hb
    rw [h0, na, nb, if_neg (by simp), if_neg (by simp)]
    split <;> rfl
  · by_cases hpt : par ps y = t
    · rw [if_pos hpt]
      rw [hpt] at q
      have z := q.at_
      rw [et] at z
      cases z
      rcases q.side with ⟨e1, e2⟩ | ⟨e1, e2⟩
      · have nb : at_ (Lk.rel ps t) b = none := by rw [at', if_pos e1.symm]
        have na : at_ (Lk.rel ps t) a = none := by rw [at', ← e2]; split <;> first | rfl | exact hc
        rw [na, nb, if_neg (by simp), if_neg (by simp)]
      · have na : at_ (Lk.rel ps t) a = none := by rw [at', if_pos e1.symm]
        have nb : at_ (Lk.rel ps t) b = none := by rw [at', ← e2]; split <;> first | rfl | exact hd
        rw [na, nb, if_neg (by simp), if_neg (by simp)]
    · rw [if_neg hpt]
      have pe := par_eq e
      rcases q.side with ⟨e1, e2⟩ | ⟨e1, e2⟩
      · have hb1 : at_ (Lk.rel ps t) b = at_ ps b := by rw [at', if_neg (fun z => hpt (e1.trans z))]
        have h1 : (at_ ps b).map (·.1) = some a := by rw [← e1, q.at_, e2]; rfl
        rw [hb1, if_pos h1, e1]
      · have ha1 : at_ (Lk.rel ps t) a = at_ ps a := by rw [at', if_neg (fun z => hpt (e1.trans z))]
        have h2 : (at_ ps a).map (·.2) = some b := by rw [← e1, q.at_, e2]; rfl
        have h1 : ¬ (at_ (Lk.rel ps t) b).map (·.1) = some a := by
          rw [at']
          split
          · simp
          · intro z
            rw [if_pos z] at pe
            rw [pe] at e1
            omega
        rw [if_neg h1, ha1, if_pos h2, e1]
theorem OK.chain_wid (o : OK n ps) : ∀ k y, at_ ps y ≠ none → (chain ps y).length ≤ k → ∀ z ∈ chain ps y, wid ps y < wid ps z ∧ at_ ps z ≠ none
  | 0, y, hy, hk, z, hz => by
    rw [List.length_eq_zero_iff.mp (Nat.le_zero.mp hk)] at hz
    cases hz
  | k + 1, y, hy, hk, z, hz => by
    have e := o.chain_eq hy
    by_cases h0 : par ps y = 0
    · rw [if_pos h0] at e; rw [e] at hz; cases hz
    · rw [if_neg h0] at e
      have po := o.par_out hy h0
      rw [e] at hz hk
      rcases List.mem_cons.mp hz with q | q
      · rw [q]; exact ⟨po.2.1, po.1⟩
      · have := o.chain_wid k (par ps y) po.1 (by rw [List.length_cons] at hk; omega) z q
        exact ⟨by omega, this.2⟩
theorem OK.chain_last (o : OK n ps) : ∀ l y t, at_ ps y ≠ none → chain ps y = l ++ [t] → isTop ps t ∧ chain (Lk.rel ps t) y = l ∧ at_ (Lk.rel ps t) y ≠ none
  | [], y, t, hy, h => by
    have e := o.chain_eq hy
    by_cases h0 : par ps y = 0
    · rw [if_pos h0] at e; rw [e] at h; cases h
    · rw [if_neg h0, h] at e
      have po := o.par_out hy h0
      have ep : t = par ps y := (List.cons.inj e).1
      have ec : chain ps (par ps y) = [] := (List.cons.inj e).2.symm
      have h1 : par ps (par ps y) = 0 := by
        have e2 := o.chain_eq po.1
        by_cases q : par ps (par ps y) = 0
        · exact q
        · rw [if_neg q, ec] at e2; cases e2
      have top : isTop ps t := by rw [ep]; exact (o.par_top po.1).mp h1
      have ne : y ≠ t := fun z => by rw [ep] at z; have := po.2.1; rw [← z] at this; omega
      have out : at_ (Lk.rel ps t) y ≠ none := by rw [Lw.rel_at o (Lw.isTop_out top), if_neg ne]; exact hy
      refine ⟨top, ?_, out⟩
      have e3 := (o.rel top).chain_eq out
      rw [o.par_rel top hy ne, if_pos ep.symm, if_pos rfl] at e3
      exact e3
  | p :: l, y, t, hy, h => by
    have e := o.chain_eq hy
    by_cases h0 : par ps y = 0
    · rw [if_pos h0] at e; rw [e] at h; cases h
    · rw [if_neg h0, h] at e
      have po := o.par_out hy h0
      have ep : p = par ps y := (List.cons.inj e).1
      have ec : chain ps (par ps y) = l ++ [t] := (List.cons.inj e).2.symm
      obtain ⟨top, hc, hout⟩ := o.chain_last l (par ps y) t po.1 ec
      have w1 := o.chain_wid _ (par ps y) po.1 (Nat.le_refl _) t (by rw [ec]; simp)
      have ne : y ≠ t := fun z => by rw [← z] at w1; have := po.2.1; omega
      have npt : par ps y ≠ t := fun z => by rw [← z] at w1; omega
      have out : at_ (Lk.rel ps t) y ≠ none := by rw [Lw.rel_at o (Lw.isTop_out top), if_neg ne]; exact hy
      refine ⟨top, ?_, out⟩
      have e3 := (o.rel top).chain_eq out
      rw [o.par_rel top hy ne, if_neg npt, if_neg h0, hc, ← ep] at e3
      exact e3
end Lk
set_option Elab.async false
set_option linter.all false
set_option maxRecDepth 100000
set_option maxHeartbeats 4000000
namespace Lw
open PySem PySem.Spec PyProof.Rows L2
local macro_rules | `(tactic| walk_at "h") => `(tactic| first | assumption | (refine (by assumption : Same _ _) _ _ ?_; walk_at "h"))
local macro_rules | `(tactic| walk_at "g1") => `(tactic| first
  | with_reducible refine g_seq ?_ | with_reducible refine g_asg ?_ | with_reducible refine g_name ?_ | with_reducible refine g_drop ?_ | with_reducible refine g_ret ?_ | with_reducible refine g_retN ?_
  | with_reducible refine g_next ?_ | with_reducible refine g_brk ?_ | with_reducible refine g_cont ?_ | with_reducible refine g_if ?_ | ((with_reducible show tVar _ _ _ _); refine ⟨_, rfl, ?_⟩) | with_reducible refine g_c ?_
  | with_reducible refine g_op ?_ | with_reducible refine g_un ?_ | with_reducible refine g_ifE ?_ | with_reducible refine g_test ?_ | with_reducible refine g_B ?_ | with_reducible refine g_and ?_ | with_reducible refine g_or ?_ | with_reducible refine g_not ?_
  | with_reducible refine g_andV ?_ | with_reducible refine g_orV ?_ | with_reducible refine g_notV ?_ | with_reducible refine g_nil ?_ | with_reducible refine g_cons ?_ | with_reducible refine g_cb ?_ | with_reducible refine g_f ?_
  | with_reducible refine g_bl ?_ | with_reducible refine g_blV ?_ | with_reducible refine g_part ?_ | with_reducible refine g_nopart ?_ | with_reducible refine g_sl ?_ | with_reducible refine g_intx ?_
  | with_reducible refine r_i0 ?_ | with_reducible refine r_eqi ?_ | with_reducible refine r_nei ?_ | with_reducible refine r_u ?_
  | with_reducible refine r_isN_non ?_ | with_reducible refine r_isN_ref ?_ | with_reducible refine r_isN_int ?_ | with_reducible refine r_notN_non ?_ | with_reducible refine r_notN_ref ?_
  | with_reducible refine h_lc ?_ | with_reducible refine h_for ?_ | with_reducible refine h_rng1 ?_ | with_reducible refine h_rng2 ?_ | with_reducible refine h_ilist ?_ | with_reducible refine h_lst ?_ | with_reducible refine h_tup ?_
  | with_reducible refine h_fld ?_ | with_reducible refine h_m ?_ | with_reducible refine g_sm ?_ | with_reducible refine g_cm ?_ | with_reducible refine h_mk ?_ | with_reducible refine g_chain ?_ | with_reducible refine g_asgsub ?_ | with_reducible refine g_sfld ?_
  | with_reducible refine g_bm ?_ | with_reducible refine g_bm0 ?_
  | ((with_reducible refine' r_tup0 ?gh ?_); (case gh => walk_at "h")) | ((with_reducible refine' r_tup1 ?gh ?_); (case gh => walk_at "h"))
  | ((with_reducible refine' And.intro (ty_lst ?gh) ?_); (case gh => walk_at "h"))
  | with_reducible refine h_lrg ?_ | with_reducible refine h_rg1 ?_ | with_reducible refine h_rg2 ?_ | with_reducible refine g_int2 ?_ | with_reducible refine h_sfld ?_ | with_reducible refine h_augx rfl ?_ | with_reducible refine h_tru ?_ | with_reducible refine g_ipI ?_ | with_reducible refine h_enum ?_ | with_reducible refine h_enumS ?_ | with_reducible refine h_m1 ?_ | with_reducible refine g_isS ?_ | with_reducible refine h_m0 ?_ | with_reducible refine h_mS ?_ | with_reducible refine h_dget ?_ | with_reducible refine h_dget2 ?_ | with_reducible refine h_dput ?_ | with_reducible refine h_keys ?_ | with_reducible refine h_lvals ?_ | with_reducible refine h_nodeX ?_ | with_reducible refine h_cval ?_
  | with_reducible refine i_true ?_ | with_reducible refine i_false ?_ | with_reducible refine i_nt ?_ | with_reducible refine i_nf ?_)
local macro_rules | `(tactic| walk_at "go") => `(tactic| ((repeat' walk_at "g1"); (try dsimp only)))
section
variable {P : Program} {w : World} {K : PySem.W.Frag} {mg : Str → Option Value} {base : Heap}
theorem cnt_outs {n : Nat} {ps : Lk.PL} (o : Lk.OK n ps) {xs : List V} (hx : xs.length = ps.length) (v : Nat → V) : (giv 0 xs.length (outB ps) v).length = (outsN n ps).length := by
  unfold giv
  rw [List.length_map, hx, o.len, outs_eq o]
/-- [v for v in pairs if v is not None], asked for each -/
theorem out_test {H H1 : Hp} {p : Addr} {ps : Lk.PL} {xs : List V} (hx : H p = some (.lst xs)) (h2 : xs.length = ps.length) (h3 : ∀ (i : Nat) (o : Option (Nat × Nat)), ps[i]? = some o → ∃ v, xs[i]? = some v ∧ PvAt H o v) {k : Nat} {x : V} (hk : xs[k]? = some x) {Q : VK}
    (q : Q (.bl (outB ps k)) H1) : rNotN x .non H1 Q := by
  have hkl := (List.getElem?_eq_some_iff.mp hk).1
  obtain ⟨v, hv, pv⟩ := h3 k _ (Lk.at_get (by omega))
  rw [hk] at hv
  cases hv
  rcases pv with ⟨ea, rfl⟩ | ⟨ca, cb, t, ea, rfl, ht⟩
  · rw [outB_f ea] at q
    exact r_notN_non q
  · rw [outB_t ea] at q
    exact r_notN_ref q
theorem sc_law_ways : FnScope ["_law_pairs", "_law_v"] ["_law_pairs"] (defScope s_law_ways) := ⟨rfl, rfl, rfl, by decide +kernel, rfl, by decide +kernel, by decide +kernel⟩
theorem bd_law_ways : BindsP "_law_ways" "_law_ways" s_law_ways ["_law_pairs"] := fun _ _ _ _ _ _ us hl => match us, hl with | [_], _ => rfl
def sp_law_ways : Sp := fun vs H Q _ => ∃ (p : Addr) (ps : Lk.PL) (n : Nat), vs = [.ref p] ∧ PairsAt H p ps ∧ Lk.OK n ps ∧ n ≤ 60 ∧ ∀ H', Same H H' → Q (.int (hookZ n ps)) H'
set_option maxHeartbeats 4000000 in
theorem ok_law_ways (T : Tx K mg) : FnR P w K mg base CX0 3 (He.ga K "_law_ways") (sp_law_ways ) := by
  refine (T.F_law_ways).ok sc_law_ways bd_law_ways (fun vs H Q E h => ?_) (fun cdv A outer s H vs Q E hr h => ?_)
  · obtain ⟨p, ps, n, rfl, _⟩ := h
    rfl
  · obtain ⟨p, ps, n, rfl, hp, o, hn, q⟩ := h
    have hl := o.len
    refine ⟨_, (pss_cons (ps_if (pt_cmpR op_lt (pe_callB (lenK (K := K) rfl) (by rfl) T.n_len PySem.boot_len (pa_cons (pe_lc (own := [("_law_v", 1)]) (g := gName 1) rfl sc_law_ways.nd (pilK (K := K) rfl (pv 0)) (blkOk_by (own := [("_law_v", 1)]) (N := ["_law_pairs", "_law_v"]) (sc := defScope s_law_ways) (by decide +kernel)) (fun _ _ _ _ _ => pg_name (i := 1) sc_law_ways.nd rfl (Or.inl rfl)) (fun _ _ _ _ _ => (pts_one (pt_cmpR op_notN1 (pv 1) pe_non (nomark _)))) (fun _ _ _ _ _ => (pv 1))) pa_nil)) pe_int (nomark _)) (pss_one (ps_ret (pe_f (ok_law_counted (K := K) T) (hr.mono (by decide)) rfl T.g_law_counted T.k_law_counted pass0 (pa_cons (pv 0) pa_nil)))) pss_nil) (pss_one (ps_ret (pe_f (ok_law_quotient (K := K) T) (hr.mono (by decide)) rfl T.g_law_quotient T.k_law_quotient pass0 (pa_cons (pv 0) pa_nil))))), ?_⟩
    obtain ⟨xs, hx1, hx2, hx3⟩ := hp.ex
    walk_at "go"
    refine a_il hx1 ?_
    refine l_list (outB ps) (fun k => xs.getD k .non) (SqL.of hx1) (by omega) (fun _ => rfl) (fun k x H3 hk e3 R c => ?_) (fun k x H3 hk e3 hf R c => ?_) (fun D H3 hD e3 hd => ?_)
    · walk_at "go"
      exact out_test hx1 hx2 hx3 hk ⟨_, rfl, c H3 (Same.refl _)⟩
    · have ev : xs.getD k .non = x := by rw [List.getD_eq_getElem?_getD, hk]; rfl
      rw [ev] at c
      walk_at "go"
      exact c H3 (Same.refl _)
    walk_at "go"
    refine a_len hd ?_
    rw [cnt_outs o hx2]
    walk_at "go"
    refine i_dec (fun c => ?_) (fun c => ?_)
    · walk_at "go"
      exact ⟨p, ps, n, rfl, hp.mono e3, o, hn, by omega, fun H4 e4 => q H4 (e3.trans e4)⟩
    · walk_at "go"
      exact ⟨p, ps, n, rfl, hp.mono e3, o, hn, fun H4 e4 => q H4 (e3.trans e4)⟩
theorem sc_law_node : FnScope ["_law_forest_here", "_law_pairs", "_law_node_here", "_law_way", "_law_told", "_law_dues", "_law_turn", "_law_row", "_law_v"] ["_law_forest_here", "_law_pairs", "_law_node_here"] (defScope s_law_node) := ⟨rfl, rfl, rfl, by decide +kernel, rfl, by decide +kernel, by decide +kernel⟩
theorem bd_law_node : BindsP "_law_node" "_law_node" s_law_node ["_law_forest_here", "_law_pairs", "_law_node_here"] := fun _ _ _ _ _ _ us hl => match us, hl with | [_, _, _], _ => rfl
def sp_law_node (K : PySem.W.Frag) : Sp := fun vs H Q _ => ∃ (f p : Addr) (ps : Lk.PL) (n : Nat) (z : Int), vs = [.ref f, .ref p, .int z] ∧ ForestAt K H f n ps ∧ PairsAt H p ps ∧ Lk.OK n ps ∧ n ≤ 60 ∧ ∀ H', Same H H' → Q (.bl true) H'
theorem isOutZ_no {n : Nat} {ps : Lk.PL} {z : Int} (h : ¬ (1 ≤ z ∧ z ≤ n)) : isOutZ n ps z = false := if_neg h
theorem isOutZ_in {n : Nat} {ps : Lk.PL} {x : Nat} (h1 : 1 ≤ x) (h2 : x ≤ n) : isOutZ n ps ((x : Nat) : Int) = outB ps x := by
  unfold isOutZ
  rw [if_pos (by omega), Int.toNat_natCast]
set_option maxHeartbeats 4000000 in
theorem ok_law_node (T : Tx K mg) (B : Bx P K mg) : FnR P w K mg base CX0 8 (He.ga K "_law_node") (sp_law_node K) := by
  refine (T.F_law_node).ok sc_law_node bd_law_node (fun vs H Q E h => ?_) (fun cdv A outer s H vs Q E hr h => ?_)
  · obtain ⟨f, p, ps, n, z, rfl, _⟩ := h
    rfl
  · obtain ⟨f, p, ps, n, z, rfl, hF, hp, o, hn, q⟩ := h
    have hl := o.len
    refine ⟨_, (pss_cons (ps_if (PW.pt (pw_or (pt_cmpR op_lt (pv 2) pe_int (nomark _)) (pw_or (pt_cmpR op_gt (pv 2) (pe_op op_sub (pe_callB (lenK (K := K) rfl) (by rfl) T.n_len PySem.boot_len (pa_cons (pv 1) pa_nil)) pe_int) (nomark _)) (pw_or1 (pt_cmpR op_isN1 (pe_ix (ixl (K := K) rfl) (pv 1) (pv 2) (fun _ _ => rfl)) pe_non (nomark _)))))) (pss_cons (ps_for PassesOwn.never rfl (pi_range1 rfl T.n_range (pa_cons pe_int pa_nil)) (pg_name (i := 3) sc_law_node.nd rfl (by first | exact Or.inl rfl | exact Or.inr rfl)) (pss_cons (ps_set (i := 4) sc_law_node.nd rfl (by first | exact Or.inl rfl | exact Or.inr rfl) (pe_f (ok_law_asked (K := K) T B) (hr.mono (by decide)) rfl T.g_law_asked T.k_law_asked pass0 (pa_cons (pv 0) (pa_cons (pv 2) (pa_cons (pv 3) pa_nil))))) (pss_one (ps_if (PW.pt (pw_or (pt_cmpR op_ne (pe_ix (ixt (K := K) rfl) (pv 4) pe_int (fun _ _ => rfl)) pe_int (nomark _)) (pw_or (pt_not (pt_val (pe_f (ok_law_is_integer (K := K) T) (hr.mono (by decide)) rfl T.g_law_is_integer T.k_law_is_integer pass0 (pa_cons (pe_ix (ixt (K := K) rfl) (pv 4) pe_int (fun _ _ => rfl)) pa_nil)))) (pw_or1 (pt_cmpR op_ne (pe_ix (ixt (K := K) rfl) (pv 4) pe_int (fun _ _ => rfl)) (pv 2) (nomark _)))))) (pss_one (ps_ret pe_bl)) pss_nil)))) (pss_one (ps_ret pe_bl))) pss_nil) (pss_cons (ps_set (i := 4) sc_law_node.nd rfl (by first | exact Or.inl rfl | exact Or.inr rfl) (pe_f (ok_law_asked (K := K) T B) (hr.mono (by decide)) rfl T.g_law_asked T.k_law_asked pass0 (pa_cons (pv 0) (pa_cons (pv 2) (pa_cons pe_int pa_nil))))) (pss_cons (ps_if (PW.pt (pw_or (pt_cmpR op_ne (pe_ix (ixt (K := K) rfl) (pv 4) pe_int (fun _ _ => rfl)) pe_int (nomark _)) (pw_or (pt_not (pt_val (pe_f (ok_law_is_integer (K := K) T) (hr.mono (by decide)) rfl T.g_law_is_integer T.k_law_is_integer pass0 (pa_cons (pe_ix (ixt (K := K) rfl) (pv 4) pe_int (fun _ _ => rfl)) pa_nil)))) (pw_or1 (pt_cmpR op_ne (pe_ix (ixt (K := K) rfl) (pv 4) pe_int (fun _ _ => rfl)) (pe_f (ok_law_parent (K := K) T) (hr.mono (by decide)) rfl T.g_law_parent T.k_law_parent pass0 (pa_cons (pv 1) (pa_cons (pv 2) pa_nil))) (nomark _)))))) (pss_one (ps_ret pe_bl)) pss_nil) (pss_cons (ps_set (i := 5) sc_law_node.nd rfl (by first | exact Or.inl rfl | exact Or.inr rfl) (pe_lst (pa_cons (pe_f (ok_law_chain (K := K) T) (hr.mono (by decide)) rfl T.g_law_chain T.k_law_chain pass0 (pa_cons (pv 1) (pa_cons (pv 2) pa_nil))) (pa_cons (pe_lc (own := [("_law_v", 8)]) (g := gName 8) rfl sc_law_node.nd (pi_range2 rfl T.n_range (pa_cons (pe_op op_add (pe_ix (ixt (K := K) rfl) (pe_ix (ixl (K := K) rfl) (pv 1) (pv 2) (fun _ _ => rfl)) pe_int (fun _ _ => rfl)) pe_int) (pa_cons (pe_ix (ixt (K := K) rfl) (pe_ix (ixl (K := K) rfl) (pv 1) (pv 2) (fun _ _ => rfl)) pe_int (fun _ _ => rfl)) pa_nil))) (blkOk_by (own := [("_law_v", 8)]) (N := ["_law_forest_here", "_law_pairs", "_law_node_here", "_law_way", "_law_told", "_law_dues", "_law_turn", "_law_row", "_law_v"]) (sc := defScope s_law_node) (by decide +kernel)) (fun _ _ _ _ _ => pg_name (i := 8) sc_law_node.nd rfl (Or.inl rfl)) (fun _ _ _ _ _ => (pts_one (pt_cmpR op_ne (pv 8) (pv 2) (nomark _)))) (fun _ _ _ _ _ => (pv 8))) pa_nil)))) (pss_cons (ps_for PassesOwn.never rfl (pi_range1 rfl T.n_range (pa_cons pe_int pa_nil)) (pg_name (i := 6) sc_law_node.nd rfl (by first | exact Or.inl rfl | exact Or.inr rfl)) (pss_one (ps_for PassesOwn.never rfl (pi_range1 rfl T.n_range (pa_cons pe_int pa_nil)) (pg_name (i := 3) sc_law_node.nd rfl (by first | exact Or.inl rfl | exact Or.inr rfl)) (pss_cons (ps_set (i := 4) sc_law_node.nd rfl (by first | exact Or.inl rfl | exact Or.inr rfl) (pe_f (ok_law_asked (K := K) T B) (hr.mono (by decide)) rfl T.g_law_asked T.k_law_asked pass0 (pa_cons (pv 0) (pa_cons (pv 2) (pa_cons (pe_op op_add (pv 3) pe_int) pa_nil))))) (pss_cons (ps_if (PW.pt (pw_or (pt_cmpR op_ne (pe_ix (ixt (K := K) rfl) (pv 4) pe_int (fun _ _ => rfl)) pe_int (nomark _)) (pw_or1 (pt_not (pt_val (pe_f (ok_law_rows (K := K) T) (hr.mono (by decide)) rfl T.g_law_rows T.k_law_rows pass0 (pa_cons (pe_ix (ixt (K := K) rfl) (pv 4) pe_int (fun _ _ => rfl)) (pa_cons (pe_ix (ixl (K := K) rfl) (pv 5) (pv 3) (fun _ _ => rfl)) pa_nil)))))))) (pss_one (ps_ret pe_bl)) pss_nil) (pss_cons (ps_set (i := 7) sc_law_node.nd rfl (by first | exact Or.inl rfl | exact Or.inr rfl) (pe_ix (ixt (K := K) rfl) (pv 4) pe_int (fun _ _ => rfl))) (pss_cons (ps_expr (bmK (K := K) rfl PySem.F.plainAttrs_list PySem.F.slot_list_append PySem.F.type_list_append mt_append (pv 7) (pa_cons pe_int pa_nil))) (pss_one (ps_asg (pe_un un_neg pe_int) (pg_sub (pv 7) pe_int set_list)))))))))) (pss_one (ps_ret pe_bl))))))), ?_⟩
    have bad : isOutZ n ps z = false → ∀ {D : Ends} {t : TS}, D.rt = Q → tSeq
          (tFor (iRng1 (tCons (tC (.int 3)) tNil)) (gName 3)
            (tSeq
              (tAsg (tF (sp_law_asked K) E0 (tCons (tVar 0) (tCons (tVar 2) (tCons (tVar 3) tNil)))) (gName 4))
              (tIfS
                (tOr (tTest (tOp rNe (tOp (rIxT K) (tVar 4) (tC (.int 0))) (tC (.int 1))))
                  (tOr (tNot (tB (tF sp_law_is_integer E0 (tCons (tOp (rIxT K) (tVar 4) (tC (.int 1))) tNil))))
                    (tTest (tOp rNe (tOp (rIxT K) (tVar 4) (tC (.int 1))) (tVar 2)))))
                (tRet (tC (.bl false))) tNext)))
          (tRet (tC (.bl true))) D [some (.ref f), some (.ref p), some (.int z), none, none, none, none, none, none] H := by
      intro hz D t hD
      walk_at "go"
      refine a_r1 3 rfl (by omega) ?_
      refine fo_rN (fun i σ H' => ∃ (v3 v4 : Option V), σ = [some (.ref f), some (.ref p), some (.int z), v3, v4, none, none, none, none] ∧ Same H H') ⟨none, none, rfl, Same.refl _⟩ ?_ ?_
      · rintro i σ H1 hi ⟨v3, v4, rfl, e1⟩
        walk_at "go"
        refine ⟨f, n, 0 + i, ps, z, rfl, hF.mono e1, o, hn, fun _ t H2 ht e2 h2 => ?_, (fun h => by rw [hz] at h; cases h), (fun h => by rw [hz] at h; cases h), (fun h => by rw [hz] at h; cases h)⟩
        walk_at "go"
        refine n_yes rfl ?_
        walk_at "go"
        refine ⟨z, rfl, ?_⟩
        walk_at "go"
        refine n_yes rfl ?_
        walk_at "go"
        exact ⟨_, _, rfl, e1.trans e2⟩
      · rintro σ H1 ⟨v3, v4, rfl, e1⟩
        walk_at "go"
        rw [hD]
        exact q H1 e1
    walk_at "go"
    refine i_dec (fun c1 => ?_) (fun c1 => ?_)
    · walk_at "go"
      exact bad (isOutZ_no (by omega)) (t := tNext) rfl
    walk_at "go"
    refine a_plen hp ?_
    walk_at "go"
    refine i_dec (fun c2 => ?_) (fun c2 => ?_)
    · walk_at "go"
      exact bad (isOutZ_no (by omega)) (t := tNext) rfl
    obtain ⟨x, rfl⟩ : ∃ x : Nat, z = (x : Int) := ⟨z.toNat, by omega⟩
    have hx1 : 1 ≤ x := by omega
    have hx2 : x ≤ n := by omega
    walk_at "go"
    refine e_isN hp (by omega) ?_
    walk_at "go"
    refine i_b (fun c3 => ?_) (fun c3 => ?_)
    · exact bad (by rw [isOutZ_in hx1 hx2, outB_f (inB_iff c3)]) (t := tNext) rfl
    obtain ⟨a, b, e⟩ := inB_some c3
    have hz : isOutZ n ps ((x : Nat) : Int) = true := by rw [isOutZ_in hx1 hx2, outB_t e]
    have hout : Lk.at_ ps x ≠ none := by rw [e]; simp
    have r := o.rng e
    walk_at "go"
    refine ⟨f, n, 0, ps, (x : Int), rfl, hF, o, hn, (fun h => by rw [hz] at h; cases h), fun _ _ t H1 ht e1 h1 => ?_, fun _ h => by omega, fun _ h => by omega⟩
    rw [Int.toNat_natCast] at h1
    walk_at "go"
    refine n_yes rfl ?_
    walk_at "go"
    refine ⟨_, rfl, ?_⟩
    walk_at "go"
    refine ⟨p, ps, x, a, b, rfl, hp.mono e1, OKBd o, e, ?_⟩
    walk_at "go"
    refine n_yes rfl ?_
    walk_at "go"
    refine ⟨p, ps, x, n, rfl, hp.mono e1, o, hn, hout, fun c H2 hc e2 h2 => ?_⟩
    have hp2 := (hp.mono e1).mono e2
    walk_at "go"
    refine e_fst hp2 e ?_
    walk_at "go"
    refine e_snd hp2 e ?_
    walk_at "go"
    refine a_r2 (a + 1) (b - a - 1) (by omega) (by omega) (by omega) ?_
    refine l_rN (fun y => !decide (y = x)) (fun i => .int (i : Int)) (by omega) (fun _ => rfl) (fun i H1 _ hi e R k => ?_) (fun i H1 _ hi e hf R k => ?_) (fun D H3 hD e3 hd => ?_)
    · walk_at "go"
      have k := k H1 (Same.refl _)
      have ee : decide (i = x) = decide ((i : Int) = (x : Int)) := by
        by_cases h : i = x
        · rw [decide_eq_true h, decide_eq_true (by omega)]
        · rw [decide_eq_false h, decide_eq_false (by omega)]
      rw [ee] at k
      exact k
    · walk_at "go"
      exact k H1 (Same.refl _)
    have hd : H3 D = some (.lst (intsV (belowL ps x))) := by
      rw [hd]
      unfold belowL
      rw [Lk.lL_some e, Lk.lR_some e]
      rfl
    walk_at "go"
    refine a_lst fun du H4 hdu e4 h4 => ?_
    walk_at "go"
    have e14 := ((e1.trans e2).trans e3).trans e4
    have hc4 := e4 _ _ (e3 _ _ h2)
    have hd4 := e4 _ _ hd
    have lc : (Lk.chain ps x).length ≤ n := o.chain_len hout
    have lb : (belowL ps x).length ≤ 100 := by
      unfold belowL
      refine Nat.le_trans (List.length_filter_le _ _) ?_
      rw [List.length_range', Lk.lL_some e, Lk.lR_some e]
      omega
    refine a_r1 2 rfl (by omega) ?_
    refine fo_rN (fun i σ H' => ∃ (v3 v4 v6 v7 : Option V), σ = [some (.ref f), some (.ref p), some (.int (x : Int)), v3, v4, some (.ref du), v6, v7, none] ∧ Same H4 H')
      ⟨_, _, _, _, rfl, Same.refl _⟩ ?_ ?_
    · rintro i σ H5 hi ⟨v3, v4, v6, v7, rfl, e5⟩
      walk_at "go"
      refine a_r1 2 rfl (by omega) ?_
      refine fo_rN (fun i σ H' => ∃ (v3 v4 v6 v7 : Option V), σ = [some (.ref f), some (.ref p), some (.int (x : Int)), v3, v4, some (.ref du), v6, v7, none] ∧ Same H4 H')
        ⟨_, _, _, _, rfl, e5⟩ ?_ ?_
      · rintro j σ H6 hj ⟨v3, v4, v6, v7, rfl, e6⟩
        have eH6 := e14.trans e6
        have hdu6 := e6 _ _ h4
        walk_at "go"
        have row : ∀ (ns : List Nat) (dl : Addr) (t r : Addr) (H7 : Hp), (([V.ref c, V.ref D] : List V)[j]? = some (.ref dl)) → ns.length ≤ 1000 → H6 dl = some (.lst (intsV ns)) → H6 r = none → Same H6 H7 → H7 t = some (.tup [.int 0, .ref r]) → H7 r = some (.lst (intsV ns)) →
            ∀ {D' : Ends}, (∀ (v3 v4 v6 v7 : Option V) H', Same H4 H' → D'.nx [some (.ref f), some (.ref p), some (.int (x : Int)), v3, v4, some (.ref du), v6, v7, none] H') →
            tSeq
              (tIfS
                (tOr (tTest (tOp rNe (tOp (rIxT K) (tVar 4) (tC (.int 0))) (tC (.int 0))))
                  (tNot (tB (tF sp_law_rows E0 (tCons (tOp (rIxT K) (tVar 4) (tC (.int 1))) (tCons (tOp (rIxL K) (tVar 5) (tVar 3)) tNil))))))
                (tRet (tC (.bl false))) tNext)
              (tSeq (tAsg (tOp (rIxT K) (tVar 4) (tC (.int 1))) (gName 7))
                (tSeq (tDrop (tBM K "list" rAppend (tVar 7) (tCons (tC (.int 0)) tNil)))
                  (tAsg (tUn (rU fun i => .int (-i)) (tC (.int 1))) (gSub (tVar 7) (tC (.int 0)) rSetL)))) D' [some (.ref f), some (.ref p), some (.int (x : Int)), some (.int ((0 + j : Nat) : Int)), some (.ref t), some (.ref du), v6, v7, none] H7 := by
          intro ns dl t r H7 hdl hns hd6 hr6 e7 ht hr7 D' hD'
          have e47 := e6.trans e7
          walk_at "go"
          refine n_yes rfl ?_
          walk_at "go"
          refine r_ixl (e7 _ _ hdu6) (i := 0 + j) (by rw [Nat.zero_add]; exact hdl) ?_
          refine ⟨r, dl, ns, rfl, hr7, e7 _ _ hd6, hns, ?_⟩
          walk_at "go"
          refine a_app hr7 (by rw [intsV_len]; omega) fun H8 h8 b8 => ?_
          walk_at "go"
          refine a_negrow h8 (by simp) fun H9 h9 b9 => ?_
          have nr : H4 r = none := e6.free hr6
          exact hD' _ _ _ _ _ (Same.but (Same.but e47 nr b8) nr b9)
        refine ⟨f, n, 0 + j + 1, ps, (x : Int), by simp, hF.mono eH6, o, hn, (fun h => by rw [hz] at h; cases h), fun _ h => by omega, fun _ hw t r H7 ht hr e7 h7 h7r => ?_, fun _ hw t r H7 ht hr e7 h7 h7r => ?_⟩
        · rw [Int.toNat_natCast] at h7r
          have ej : j = 0 := by omega
          refine row _ c t r H7 (by rw [ej]; rfl) (by omega) (e6 _ _ hc4) hr e7 h7 h7r fun v3 v4 v6 v7 H' e => ⟨v3, v4, v6, v7, rfl, e⟩
        · rw [Int.toNat_natCast] at h7r
          have ej : j = 1 := by omega
          refine row _ D t r H7 (by rw [ej]; rfl) (by omega) (e6 _ _ hd4) hr e7 h7 h7r fun v3 v4 v6 v7 H' e => ⟨v3, v4, v6, v7, rfl, e⟩
      · rintro σ H6 ⟨v3, v4, v6, v7, rfl, e6⟩
        exact ⟨_, _, _, _, rfl, e6⟩
    · rintro σ H5 ⟨v3, v4, v6, v7, rfl, e5⟩
      walk_at "go"
      exact q H5 (e14.trans e5)
end
end Lw
set_option Elab.async false
set_option linter.all false
set_option maxRecDepth 100000
set_option maxHeartbeats 4000000
namespace Lw
open PySem PySem.Spec PyProof.Rows L2
local macro_rules | `(tactic| walk_at "h") => `(tactic| first | assumption | (refine (by assumption : Same _ _) _ _ ?_; walk_at "h"))
local macro_rules | `(tactic| walk_at "g1") => `(tactic| first
  | with_reducible refine g_seq ?_ | with_reducible refine g_asg ?_ | with_reducible refine g_name ?_ | with_reducible refine g_drop ?_ | with_reducible refine g_ret ?_ | with_reducible refine g_retN ?_
  | with_reducible refine g_next ?_ | with_reducible refine g_brk ?_ | with_reducible refine g_cont ?_ | with_reducible refine g_if ?_ | ((with_reducible show tVar _ _ _ _); refine ⟨_, rfl, ?_⟩) | with_reducible refine g_c ?_
  | with_reducible refine g_op ?_ | with_reducible refine g_un ?_ | with_reducible refine g_ifE ?_ | with_reducible refine g_test ?_ | with_reducible refine g_B ?_ | with_reducible refine g_and ?_ | with_reducible refine g_or ?_ | with_reducible refine g_not ?_
  | with_reducible refine g_andV ?_ | with_reducible refine g_orV ?_ | with_reducible refine g_notV ?_ | with_reducible refine g_nil ?_ | with_reducible refine g_cons ?_ | with_reducible refine g_cb ?_ | with_reducible refine g_f ?_
  | with_reducible refine g_bl ?_ | with_reducible refine g_blV ?_ | with_reducible refine g_part ?_ | with_reducible refine g_nopart ?_ | with_reducible refine g_sl ?_ | with_reducible refine g_intx ?_
  | with_reducible refine r_i0 ?_ | with_reducible refine r_eqi ?_ | with_reducible refine r_nei ?_ | with_reducible refine r_u ?_
  | with_reducible refine r_isN_non ?_ | with_reducible refine r_isN_ref ?_ | with_reducible refine r_isN_int ?_ | with_reducible refine r_notN_non ?_ | with_reducible refine r_notN_ref ?_
  | with_reducible refine h_lc ?_ | with_reducible refine h_for ?_ | with_reducible refine h_rng1 ?_ | with_reducible refine h_rng2 ?_ | with_reducible refine h_ilist ?_ | with_reducible refine h_lst ?_ | with_reducible refine h_tup ?_
  | with_reducible refine h_fld ?_ | with_reducible refine h_m ?_ | with_reducible refine g_sm ?_ | with_reducible refine g_cm ?_ | with_reducible refine h_mk ?_ | with_reducible refine g_chain ?_ | with_reducible refine g_asgsub ?_ | with_reducible refine g_sfld ?_
  | with_reducible refine g_bm ?_ | with_reducible refine g_bm0 ?_
  | ((with_reducible refine' r_tup0 ?gh ?_); (case gh => walk_at "h")) | ((with_reducible refine' r_tup1 ?gh ?_); (case gh => walk_at "h"))
  | ((with_reducible refine' And.intro (ty_lst ?gh) ?_); (case gh => walk_at "h"))
  | with_reducible refine h_lrg ?_ | with_reducible refine h_rg1 ?_ | with_reducible refine h_rg2 ?_ | with_reducible refine g_int2 ?_ | with_reducible refine h_sfld ?_ | with_reducible refine h_augx rfl ?_ | with_reducible refine h_tru ?_ | with_reducible refine g_ipI ?_ | with_reducible refine h_enum ?_ | with_reducible refine h_enumS ?_ | with_reducible refine h_m1 ?_ | with_reducible refine g_isS ?_
  | with_reducible refine i_true ?_ | with_reducible refine i_false ?_ | with_reducible refine i_nt ?_ | with_reducible refine i_nf ?_)
local macro_rules | `(tactic| walk_at "go") => `(tactic| ((repeat' walk_at "g1"); (try dsimp only)))
section
variable {P : Program} {w : World} {K : PySem.W.Frag} {mg : Str → Option Value} {base : Heap}
theorem sc_Forest_after : FnScope ["cls", "size", "removal", "index", "node", "links"] ["cls", "size", "removal"] (defScope s_Forest_after) := ⟨rfl, rfl, rfl, by decide +kernel, rfl, by decide +kernel, by decide +kernel⟩
theorem bd_Forest_after : BindsP "after" "Forest.after" s_Forest_after ["cls", "size", "removal"] := fun _ _ _ _ _ _ us hl => match us, hl with | [_, _, _], _ => rfl
def sp_Forest_after (K : PySem.W.Frag) : Sp := fun vs H Q _ => ∃ (r : Addr) (n : Nat) (rs : List Nat), vs = [.ref (He.ga K "Forest"), .int (n : Int), .ref r] ∧ H r = some (.lst (intsV rs)) ∧ n ≤ 60 ∧ Lk.Vld n (whole n) rs ∧
  ∀ f H', H f = none → Same H H' → ForestAt K H' f n (Lk.runU (whole n) rs) → Q (.ref f) H'
set_option maxHeartbeats 4000000 in
theorem ok_Forest_after (T : Tx K mg) : FnR P w K mg base CX0 7 (He5.wf K (He.ga K "Forest") "classmethod" "after") (sp_Forest_after K) := by
  refine (T.F_Forest_after).ok sc_Forest_after bd_Forest_after (fun vs H Q E h => ?_) (fun cdv A outer s H vs Q E hr h => ?_)
  · obtain ⟨r, n, rs, rfl, _⟩ := h
    rfl
  · obtain ⟨r, n, rs, rfl, hr', hn, hv, q⟩ := h
    have ow : Lk.OK n (whole n) := Lk.OK.whole n
    refine ⟨_, (pss_cons (ps_expr (pe_f (ok_check_size (K := K) T) (hr.mono (by decide)) rfl T.g_check_size T.k_check_size pass0 (pa_cons (pv 1) pa_nil))) (pss_cons (ps_for PassesOwn.never rfl (enumK (K := K) rfl (by rfl) T.n_enumerate (pa_cons (pv 2) pa_nil)) (ptupK (K := K) rfl (by rfl) (pgs_cons (pg_name (i := 3) sc_Forest_after.nd rfl (by first | exact Or.inl rfl | exact Or.inr rfl)) (pgs_cons (pg_name (i := 4) sc_Forest_after.nd rfl (by first | exact Or.inl rfl | exact Or.inr rfl)) pgs_nil))) (pss_one (ps_if (PW.pt (pw_or (pt_not (pt_chain op_le op_le pe_int (pv 4) (pv 1))) (pw_or1 (pt_cmpR (inK (K := K) rfl) (pv 4) (pe_slice (sllK (K := K) rfl) (pv 2) po_none (po_some (pv 3))) (by rfl))))) (pss_one ps_never) pss_nil))) (pss_cons (ps_set (i := 5) sc_Forest_after.nd rfl (by first | exact Or.inl rfl | exact Or.inr rfl) (pe_mk T.mkLinks (ok_Links___init__ (K := K) T) (hr.mono (by decide)) rfl T.g_Links pass0 (pa_cons (pv 1) pa_nil))) (pss_cons (ps_for PassesOwn.never rfl (pilK (K := K) rfl (pv 2)) (pg_name (i := 4) sc_Forest_after.nd rfl (by first | exact Or.inl rfl | exact Or.inr rfl)) (pss_one (ps_expr (pe_m (pv 5) T.cLinks T.mLinks_apply (ok_Links_apply (K := K) T) (hr.mono (by decide)) pass0 (pa_cons (pe_un un_neg (pv 4)) pa_nil))))) (pss_one (ps_ret (pe_smeth (pv 0) T.crForest T.stForest_grown (ok_Forest_grown (K := K) T) (hr.mono (by decide)) pass0 (pa_cons (pv 5) pa_nil)))))))), ?_⟩
    walk_at "go"
    refine ⟨n, rfl, hn, ?_⟩
    walk_at "go"
    refine a_en hr' ?_
    refine fo_enum (xs := intsV rs) (fun i σ H' => ∃ (v3 v4 : Option V), σ = [some (.ref (He.ga K "Forest")), some (.int (n : Int)), some (.ref r), v3, v4, none] ∧ Same H H')
      ⟨none, none, rfl, Same.refl _⟩ (fun i σ H' _ ⟨_, _, _, e⟩ => SqL.of (e _ _ hr')) ?_ ?_
    · rintro i x t σ H1 H2 hi ⟨v3, v4, rfl, e1⟩ ht e2 ht2
      obtain ⟨y, hy, rfl⟩ := intsV_of hi
      obtain ⟨_, h1, h2, _, h4, _⟩ := hv.get ow hy
      refine a_gtup2 ht2 ?_
      walk_at "go"
      refine i_yes (by omega) ?_
      walk_at "go"
      refine n_yes (by omega) ?_
      walk_at "go"
      refine ⟨r, _, rfl, SqL.of (e2 _ _ (e1 _ _ hr')), fun c hc => ?_⟩
      have ec : cutV (intsV rs) none (some ((i : Nat) : Int)) = intsV (rs.take i) := by
        have hlt := (List.getElem?_eq_some_iff.mp hy).1
        rw [cutV_take (by rw [intsV_len]; omega)]
        unfold intsV
        rw [List.map_take]
      rw [ec]
      refine a_in upd_same ?_
      rw [decide_eq_false h4]
      walk_at "go"
      exact ⟨_, _, rfl, (e1.trans e2).trans (Same.new hc)⟩
    · rintro σ H1 ⟨v3, v4, rfl, e1⟩
      walk_at "go"
      refine a_newL hn fun l H2 dx la ra fa N => ?_
      walk_at "go"
      refine a_il (N.same _ _ (e1 _ _ hr')) ?_
      refine fo_list (xs := intsV rs) (fun i σ H' => ∃ (v3 v4 : Option V), σ = [some (.ref (He.ga K "Forest")), some (.int (n : Int)), some (.ref r), v3, v4, some (.ref l)] ∧ Same H1 H' ∧
        LnkAt K H' l n (listV n (leftV (Lk.runU (whole n) (rs.take i)))) (listV n (rightV n (Lk.runU (whole n) (rs.take i)))) (listV n (flagV (Lk.runU (whole n) (rs.take i)))) dx la ra fa)
        ⟨v3, v4, rfl, N.same, N.at_⟩ (fun i σ H' _ ⟨_, _, _, e, _⟩ => SqL.of (e _ _ (e1 _ _ hr'))) ?_ ?_
      · rintro i x σ H3 hi ⟨v3, v4, rfl, e3, hl⟩
        obtain ⟨y, hy, rfl⟩ := intsV_of hi
        obtain ⟨o, h1, h2, h3, _, er⟩ := hv.get ow hy
        walk_at "go"
        refine am_l ⟨_, _, _, _, hl⟩ ?_
        walk_at "go"
        refine ⟨l, dx, la, ra, fa, n, y, _, _, _, rfl, hl, o, .inl ⟨rfl, h1, h2, h3, rfl⟩, fun H4 b4 hl4 => ?_⟩
        refine ⟨_, _, rfl, ?_, by rw [er]; exact hl4⟩
        exact fun c u hc => by
          rw [b4 c (ne_of_none hc N.a_) (ne_of_none hc N.r_) (ne_of_none hc N.f_)]
          exact e3 c u hc
      · rintro σ H3 ⟨v3, v4, rfl, e3, hl⟩
        rw [intsV_len, List.take_length] at hl
        walk_at "go"
        refine ⟨rfl, ?_⟩
        walk_at "go"
        refine ⟨l, n, _, rfl, ⟨_, _, _, _, hl⟩, hv.ok ow, hn, fun f H4 hf e4 F => ?_⟩
        exact q f H4 (e1.free (e3.free hf)) ((e1.trans e3).trans e4) F
theorem sc_Forest___str__ : FnScope ["self", "begins", "ends", "node", "first", "last", "words", "sign"] ["self"] (defScope s_Forest___str__) := ⟨rfl, rfl, rfl, by decide +kernel, rfl, by decide +kernel, by decide +kernel⟩
theorem bd_Forest___str__ : BindsP "__str__" "Forest.__str__" s_Forest___str__ ["self"] := fun _ _ _ _ _ _ us hl => match us, hl with | [_], _ => rfl
def sp_Forest___str__ (K : PySem.W.Frag) : Sp := fun vs H Q _ => ∃ (f : Addr) (n : Nat) (ps : Lk.PL), vs = [.ref f] ∧ ForestAt K H f n ps ∧ Lk.OK n ps ∧ n ≤ 60 ∧ ∀ H', Same H H' → Q (.str (textOf n ps)) H'
def bgV (ps : Lk.PL) (xs : List Nat) (x : Nat) : V := .int (((xs.filter fun v => decide (Lk.lL ps v + 1 = x)).length : Nat) : Int)
def enV (ps : Lk.PL) (xs : List Nat) (x : Nat) : V := .int (((xs.filter fun v => decide (Lk.lR ps v - 1 = x)).length : Nat) : Int)
theorem cnt_snoc (f : Nat → Bool) (xs : List Nat) (y : Nat) : ((xs ++ [y]).filter f).length = (xs.filter f).length + (if f y = true then 1 else 0) := by
  rw [List.filter_append, List.length_append, List.filter_cons]
  split <;> simp
set_option maxHeartbeats 4000000 in
theorem ok_Forest___str__ (T : Tx K mg) : FnR P w K mg base CX0 2 (He.ma K (He.ga K "Forest") "__str__") (sp_Forest___str__ K) := by
  refine (T.F_Forest___str__).ok sc_Forest___str__ bd_Forest___str__ (fun vs H Q E h => ?_) (fun cdv A outer s H vs Q E hr h => ?_)
  · obtain ⟨f, n, ps, rfl, _⟩ := h
    rfl
  · obtain ⟨f, n, ps, rfl, hF, o, hn, q⟩ := h
    obtain ⟨dx, l, pq, hf⟩ := hF
    have hF : ForestAt K H f n ps := ⟨dx, l, pq, hf⟩
    refine ⟨_, (pss_cons (ps_set (i := 1) sc_Forest___str__.nd rfl (by first | exact Or.inl rfl | exact Or.inr rfl) (pe_op op_rep (pe_lst (pa_cons pe_int pa_nil)) (pe_op op_add (fldK (K := K) rfl (pv 0)) pe_int))) (pss_cons (ps_set (i := 2) sc_Forest___str__.nd rfl (by first | exact Or.inl rfl | exact Or.inr rfl) (pe_op op_rep (pe_lst (pa_cons pe_int pa_nil)) (pe_op op_add (fldK (K := K) rfl (pv 0)) pe_int))) (pss_cons (ps_for PassesOwn.never rfl (pilK (K := K) rfl (pe_m0r (fldK (K := K) rfl (pv 0)) T.cLinks T.mLinks_outs (ok_Links_outs (K := K) T) (hr.mono (by decide)) pass0)) (pg_name (i := 3) sc_Forest___str__.nd rfl (by first | exact Or.inl rfl | exact Or.inr rfl)) (pss_cons (ps_set (i := 4) sc_Forest___str__.nd rfl (by first | exact Or.inl rfl | exact Or.inr rfl) (pe_op op_add (pe_m (fldK (K := K) rfl (pv 0)) T.cLinks T.mLinks_left (ok_Links_left (K := K) T) (hr.mono (by decide)) pass0 (pa_cons (pv 3) pa_nil)) pe_int)) (pss_cons (ps_set (i := 5) sc_Forest___str__.nd rfl (by first | exact Or.inl rfl | exact Or.inr rfl) (pe_op op_sub (pe_m (fldK (K := K) rfl (pv 0)) T.cLinks T.mLinks_right (ok_Links_right (K := K) T) (hr.mono (by decide)) pass0 (pa_cons (pv 3) pa_nil)) pe_int)) (pss_cons (ps_asg (pe_op op_add (pe_ix (ixl (K := K) rfl) (pv 1) (pv 4) (fun _ _ => rfl)) pe_int) (pg_sub (pv 1) (pv 4) set_list)) (pss_one (ps_asg (pe_op op_add (pe_ix (ixl (K := K) rfl) (pv 2) (pv 5) (fun _ _ => rfl)) pe_int) (pg_sub (pv 2) (pv 5) set_list))))))) (pss_cons (ps_set (i := 6) sc_Forest___str__.nd rfl (by first | exact Or.inl rfl | exact Or.inr rfl) (pe_lst pa_nil)) (pss_cons (ps_for PassesOwn.never rfl (pi_range2 rfl T.n_range (pa_cons pe_int (pa_cons (pe_op op_add (fldK (K := K) rfl (pv 0)) pe_int) pa_nil))) (pg_name (i := 3) sc_Forest___str__.nd rfl (by first | exact Or.inl rfl | exact Or.inr rfl)) (pss_cons (ps_set (i := 7) sc_Forest___str__.nd rfl (by first | exact Or.inl rfl | exact Or.inr rfl) (pe_ifExp (pt_cmpR (op_inOwn (T.mForest___contains__).at_ (T.mForest___contains__).fn (ok_Forest___contains__ (K := K) T) (hr.mono (by decide)) pass0) (pv 3) (pv 0) (by rfl)) pe_str pe_str)) (pss_one (ps_expr (bmK (K := K) rfl PySem.F.plainAttrs_list PySem.F.slot_list_append PySem.F.type_list_append mt_append (pv 6) (pa_cons (pe_op opCat (pe_op opCat (pe_op op_mulS pe_str (pe_ix (ixl (K := K) rfl) (pv 1) (pv 3) (fun _ _ => rfl))) (pv 7)) (pe_op op_mulS pe_str (pe_ix (ixl (K := K) rfl) (pv 2) (pv 3) (fun _ _ => rfl)))) pa_nil)))))) (pss_one (ps_ret (joinK (K := K) rfl pe_str (pv 6))))))))), ?_⟩
    walk_at "go"
    refine a_lst fun z0 H1 hz0 e1 h1 => ?_
    walk_at "go"
    refine fl_fsize T (hf.mono e1) ?_
    walk_at "go"
    refine a_repI (n + 2) (by omega) h1 (by omega) fun bg H2 hbg e2 h2 => ?_
    walk_at "go"
    refine a_lst fun z1 H3 hz1 e3 h3 => ?_
    walk_at "go"
    have e13 := (e1.trans e2).trans e3
    refine fl_fsize T (hf.mono e13) ?_
    walk_at "go"
    refine a_repI (n + 2) (by omega) h3 (by omega) fun en H4 hen e4 h4 => ?_
    walk_at "go"
    have e14 := e13.trans e4
    refine fl_links T (hf.mono e14) ?_
    walk_at "go"
    refine am_l (hf.mono e14).lnk ?_
    walk_at "go"
    refine ⟨l, n, ps, rfl, (hf.mono e14).lnk, hn, fun ou H5 hou e5 h5 => ?_⟩
    have h5 : H5 ou = some (.lst (intsV (outsN n ps))) := h5
    have e15 := e14.trans e5
    have hlen := outsN_len n ps
    have mem : ∀ x, x ∈ outsN n ps → Lk.at_ ps x ≠ none := fun x => (outsN_mem o).mp
    have nb : H bg = none := e1.free hbg
    have ne_ : H en = none := e13.free hen
    have nbe : bg ≠ en := ne_of_none (e3 _ _ h2) hen
    have nbo : ou ≠ bg := (ne_of_none (e4 _ _ (e3 _ _ h2)) hou).symm
    have neo : ou ≠ en := (ne_of_none h4 hou).symm
    have z0 : List.replicate (n + 2) (V.int 0) = listV n (bgV ps []) := listV_ext (by rw [List.length_replicate]) fun i hi => by rw [List.getElem?_replicate, if_pos hi]; rfl
    have z1 : List.replicate (n + 2) (V.int 0) = listV n (enV ps []) := listV_ext (by rw [List.length_replicate]) fun i hi => by rw [List.getElem?_replicate, if_pos hi]; rfl
    refine a_il h5 ?_
    refine fo_list (xs := intsV (outsN n ps)) (fun i σ H' => ∃ (v3 v4 v5 : Option V), σ = [some (.ref f), some (.ref bg), some (.ref en), v3, v4, v5, none, none] ∧ Same H H' ∧ H' ou = some (.lst (intsV (outsN n ps))) ∧
        H' bg = some (.lst (listV n (bgV ps ((outsN n ps).take i)))) ∧ H' en = some (.lst (listV n (enV ps ((outsN n ps).take i)))))
      ⟨none, none, none, rfl, e15, h5, by rw [e5 _ _ (e4 _ _ (e3 _ _ h2)), z0]; rfl, by rw [e5 _ _ h4, z1]; rfl⟩ (fun i σ H' _ ⟨_, _, _, _, _, e, _⟩ => SqL.of e) ?_ ?_
    · rintro i x σ H6 hi ⟨v3, v4, v5, rfl, e6, ho6, hb6, he6⟩
      obtain ⟨y, hy, rfl⟩ := intsV_of hi
      have hy2 := List.mem_of_getElem? hy
      have hout := mem y hy2
      have hpos := o.pos hout
      have lk := o.links hpos.1 hpos.2
      have hf6 := hf.mono e6
      walk_at "go"
      refine fl_links T hf6 ?_
      walk_at "go"
      refine am_l hf6.lnk ?_
      walk_at "go"
      refine ⟨l, n, y, _, _, _, _, rfl, hf6.lnk, hpos.1, by omega, listV_get (by omega), ?_⟩
      rw [leftV_pos hpos.1]
      walk_at "go"
      refine fl_links T hf6 ?_
      walk_at "go"
      refine am_l hf6.lnk ?_
      walk_at "go"
      refine ⟨l, n, y, _, _, _, _, rfl, hf6.lnk, hpos.2, listV_get (by omega), ?_⟩
      rw [rightV_le hpos.2]
      walk_at "go"
      have ea : ((Lk.lL ps y : Int) + 1) = ((Lk.lL ps y + 1 : Nat) : Int) := by omega
      have eb : ((Lk.lR ps y : Int) - 1) = ((Lk.lR ps y - 1 : Nat) : Int) := by omega
      rw [ea, eb]
      refine r_ixl hb6 (listV_get (by omega)) ?_
      unfold bgV
      walk_at "go"
      refine a_set hb6 (by rw [listV_len]; omega) fun H7 hb7 b7 => ?_
      have he7 : H7 en = some (.lst (listV n (enV ps ((outsN n ps).take i)))) := by rw [b7 en nbe.symm]; exact he6
      walk_at "go"
      refine r_ixl he7 (listV_get (by omega)) ?_
      unfold enV
      walk_at "go"
      refine a_set he7 (by rw [listV_len]; omega) fun H8 he8 b8 => ?_
      refine ⟨_, _, _, rfl, Same.but (Same.but e6 nb b7) ne_ b8, by rw [b8 ou neo, b7 ou nbo]; exact ho6, ?_, ?_⟩
      · rw [b8 bg nbe, hb7]
        congr 2
        refine listV_set (by omega) ?_ fun z hz hz2 => ?_
        · try unfold bgV
          rw [take_succ hy, cnt_snoc, if_pos (decide_eq_true rfl)]
          rfl
        · unfold bgV
          rw [take_succ hy, cnt_snoc, if_neg (by simpa using fun q => hz q.symm)]
          rfl
      · rw [he8]
        congr 2
        refine listV_set (by omega) ?_ fun z hz hz2 => ?_
        · try unfold enV
          rw [take_succ hy, cnt_snoc, if_pos (decide_eq_true rfl)]
          rfl
        · unfold enV
          rw [take_succ hy, cnt_snoc, if_neg (by simpa using fun q => hz q.symm)]
          rfl
    · rintro σ H6 ⟨v3, v4, v5, rfl, e6, ho6, hb6, he6⟩
      rw [intsV_len, List.take_length] at hb6 he6
      walk_at "go"
      refine a_lst (xs := []) (fun wp H7 hwp e7 h7 => ?_) (Nat.zero_le _)
      walk_at "go"
      have nw : H wp = none := e6.free hwp
      have nwb : bg ≠ wp := ne_of_none hb6 hwp
      have nwe : en ≠ wp := ne_of_none he6 hwp
      refine fl_fsize T (hf.mono (e6.trans e7)) ?_
      walk_at "go"
      refine a_r2 1 n rfl (by omega) (by omega) ?_
      refine fo_rN (fun i σ H' => ∃ (v3 v4 v5 v7 : Option V), σ = [some (.ref f), some (.ref bg), some (.ref en), v3, v4, v5, some (.ref wp), v7] ∧ Same H H' ∧
          H' bg = some (.lst (listV n (bgV ps (outsN n ps)))) ∧ H' en = some (.lst (listV n (enV ps (outsN n ps)))) ∧ H' wp = some (.lst ((List.range' 1 i).map fun x => V.str (mkS (wordL ps x)))))
        ⟨v3, v4, v5, none, rfl, e6.trans e7, e7 _ _ hb6, e7 _ _ he6, h7⟩ ?_ ?_
      · rintro i σ H8 hi ⟨v3, v4, v5, v7, rfl, e8, hb8, he8, hw8⟩
        have hF8 := hF.mono e8
        obtain ⟨fdx, fl, fp, hf8⟩ := hF8
        have hF8 := hF.mono e8
        have gb : (listV n (bgV ps (outsN n ps)))[1 + i]? = some (.int (opn ps (1 + i - 1) : Int)) := by
          rw [listV_get (by omega)]
          unfold bgV
          rw [opn_eq o (by omega)]
        have ge : (listV n (enV ps (outsN n ps)))[1 + i]? = some (.int (clo ps (1 + i + 1) : Int)) := by
          rw [listV_get (by omega)]
          unfold enV
          rw [clo_eq o]
        have b1 := opn_le ps (1 + i - 1)
        have b2 := clo_le ps (1 + i + 1)
        have hl := o.len
        walk_at "go"
        refine ⟨f, _, _, rfl, hf8.obj, f, n, ps, ((1 + i : Nat) : Int), rfl, hF8, o, hn, _, rfl, ?_⟩
        have hz : isOutZ n ps ((1 + i : Nat) : Int) = outB ps (1 + i) := by
          unfold isOutZ
          rw [if_pos (by omega), Int.toNat_natCast]
        rw [hz]
        dsimp only
        walk_at "go"
        cases eb : outB ps (1 + i) with
        | true =>
          obtain ⟨a, b, e⟩ := outB_some eb
          refine i_true ?_
          walk_at "go"
          refine r_ixl hb8 gb ?_
          rw [s_open]
          refine a_mul (by omega) ?_
          rw [s_star]
          walk_at "go"
          refine a_cat (by rw [List.length_replicate]; simp only [List.length_singleton]; omega) ?_
          walk_at "go"
          refine r_ixl he8 ge ?_
          rw [s_close]
          refine a_mul (by omega) ?_
          walk_at "go"
          refine a_cat (by rw [List.length_append, List.length_replicate, List.length_replicate]; simp only [List.length_singleton]; omega) ?_
          walk_at "go"
          refine a_app hw8 (by rw [List.length_map, List.length_range']; omega) fun H9 hw9 b9 => ?_
          refine ⟨_, v4, v5, _, rfl, Same.but e8 nw b9, by rw [b9 bg nwb]; exact hb8, by rw [b9 en nwe]; exact he8, ?_⟩
          rw [hw9, List.range'_concat, List.map_append, Nat.one_mul]
          simp only [List.map_cons, List.map_nil, wordL_out e]
        | false =>
          have e := outB_iff eb
          have e1 : opn ps (1 + i - 1) = 0 := (opn_in o e).resolve_right (by omega)
          have e2 := clo_in o e
          rw [e1] at gb
          rw [e2] at ge
          refine i_false ?_
          walk_at "go"
          refine r_ixl hb8 gb ?_
          rw [s_open]
          refine a_mul (by omega) ?_
          rw [s_dot]
          walk_at "go"
          refine a_cat (by simp) ?_
          walk_at "go"
          refine r_ixl he8 ge ?_
          rw [s_close]
          refine a_mul (by omega) ?_
          walk_at "go"
          refine a_cat (by simp) ?_
          walk_at "go"
          refine a_app hw8 (by rw [List.length_map, List.length_range']; omega) fun H9 hw9 b9 => ?_
          refine ⟨_, v4, v5, _, rfl, Same.but e8 nw b9, by rw [b9 bg nwb]; exact hb8, by rw [b9 en nwe]; exact he8, ?_⟩
          rw [hw9, List.range'_concat, List.map_append, Nat.one_mul]
          simp only [List.map_cons, List.map_nil, wordL_in e]
          rfl
      · rintro σ H8 ⟨v3, v4, v5, v7, rfl, e8, hb8, he8, hw8⟩
        walk_at "go"
        exact a_text o.len hn hw8 (q H8 e8)
end
end Lw
set_option Elab.async false
set_option linter.all false
set_option maxRecDepth 100000
set_option maxHeartbeats 4000000
namespace Lw
open PySem PySem.Spec PyProof.Rows L2
local macro_rules | `(tactic| walk_at "h") => `(tactic| first | assumption | (refine (by assumption : Same _ _) _ _ ?_; walk_at "h"))
local macro_rules | `(tactic| walk_at "g1") => `(tactic| first
  | with_reducible refine g_seq ?_ | with_reducible refine g_asg ?_ | with_reducible refine g_name ?_ | with_reducible refine g_drop ?_ | with_reducible refine g_ret ?_ | with_reducible refine g_retN ?_
  | with_reducible refine g_next ?_ | with_reducible refine g_brk ?_ | with_reducible refine g_cont ?_ | with_reducible refine g_if ?_ | ((with_reducible show tVar _ _ _ _); refine ⟨_, rfl, ?_⟩) | with_reducible refine g_c ?_
  | with_reducible refine g_op ?_ | with_reducible refine g_un ?_ | with_reducible refine g_ifE ?_ | with_reducible refine g_test ?_ | with_reducible refine g_B ?_ | with_reducible refine g_and ?_ | with_reducible refine g_or ?_ | with_reducible refine g_not ?_
  | with_reducible refine g_andV ?_ | with_reducible refine g_orV ?_ | with_reducible refine g_notV ?_ | with_reducible refine g_nil ?_ | with_reducible refine g_cons ?_ | with_reducible refine g_cb ?_ | with_reducible refine g_f ?_
  | with_reducible refine g_bl ?_ | with_reducible refine g_blV ?_ | with_reducible refine g_part ?_ | with_reducible refine g_nopart ?_ | with_reducible refine g_sl ?_ | with_reducible refine g_intx ?_
  | with_reducible refine r_i0 ?_ | with_reducible refine r_eqi ?_ | with_reducible refine r_nei ?_ | with_reducible refine r_u ?_
  | with_reducible refine r_isN_non ?_ | with_reducible refine r_isN_ref ?_ | with_reducible refine r_isN_int ?_ | with_reducible refine r_notN_non ?_ | with_reducible refine r_notN_ref ?_
  | with_reducible refine h_lc ?_ | with_reducible refine h_for ?_ | with_reducible refine h_rng1 ?_ | with_reducible refine h_rng2 ?_ | with_reducible refine h_ilist ?_ | with_reducible refine h_lst ?_ | with_reducible refine h_tup ?_
  | with_reducible refine h_fld ?_ | with_reducible refine h_m ?_ | with_reducible refine g_sm ?_ | with_reducible refine g_cm ?_ | with_reducible refine h_mk ?_ | with_reducible refine g_chain ?_ | with_reducible refine g_asgsub ?_ | with_reducible refine g_sfld ?_
  | with_reducible refine g_bm ?_ | with_reducible refine g_bm0 ?_
  | ((with_reducible refine' r_tup0 ?gh ?_); (case gh => walk_at "h")) | ((with_reducible refine' r_tup1 ?gh ?_); (case gh => walk_at "h"))
  | ((with_reducible refine' And.intro (ty_lst ?gh) ?_); (case gh => walk_at "h"))
  | with_reducible refine h_lrg ?_ | with_reducible refine h_rg1 ?_ | with_reducible refine h_rg2 ?_ | with_reducible refine g_int2 ?_ | with_reducible refine h_sfld ?_ | with_reducible refine h_augx rfl ?_ | with_reducible refine h_tru ?_ | with_reducible refine g_ipI ?_ | with_reducible refine h_enum ?_ | with_reducible refine h_enumS ?_ | with_reducible refine h_m1 ?_ | with_reducible refine g_isS ?_ | with_reducible refine h_m0 ?_ | with_reducible refine h_cval ?_
  | with_reducible refine i_true ?_ | with_reducible refine i_false ?_ | with_reducible refine i_nt ?_ | with_reducible refine i_nf ?_)
local macro_rules | `(tactic| walk_at "go") => `(tactic| ((repeat' walk_at "g1"); (try dsimp only)))
section
variable {P : Program} {w : World} {K : PySem.W.Frag} {mg : Str → Option Value} {base : Heap}
theorem sc_is_number : FnScope ["word"] ["word"] (defScope s_is_number) := ⟨rfl, rfl, rfl, by decide +kernel, rfl, by decide +kernel, by decide +kernel⟩
theorem bd_is_number : BindsP "is_number" "is_number" s_is_number ["word"] := fun _ _ _ _ _ _ us hl => match us, hl with | [_], _ => rfl
def sp_is_number : Sp := fun vs H Q _ => ∃ (k : Nat), vs = [.str (numS k)] ∧ k < 100 ∧ Q (.bl true) H
set_option maxHeartbeats 4000000 in
theorem ok_is_number (T : Tx K mg) : FnR P w K mg base CX0 1 (He.ga K "is_number") (sp_is_number ) := by
  refine (T.F_is_number).ok sc_is_number bd_is_number (fun vs H Q E h => ?_) (fun cdv A outer s H vs Q E hr h => ?_)
  · obtain ⟨k, rfl, _⟩ := h
    rfl
  · obtain ⟨k, rfl, hk, q⟩ := h
    refine ⟨_, (pss_cons (ps_if (pt_not (PW.pt (pw_and (pt_val (M0_isascii (pv 0))) (pw_and1 (pt_val (M0_isdigit (pv 0))))))) (pss_one (ps_ret pe_bl)) pss_nil) (pss_one (ps_ret (pe_or (pe_cmpR op_eq (pv 0) pe_str (nomark _)) (pe_one (pe_and (pe_cmpR op_ne (pe_ix ix_str (pv 0) pe_int (fun _ _ => rfl)) pe_str (nomark _)) (pe_one (pe_cmpR op_le (pe_callB lenS (by rfl) T.n_len PySem.boot_len (pa_cons (pv 0) pa_nil)) (pe_gi rfl T.g_MOST_DIGITS) (nomark _))))))))), ?_⟩
    walk_at "go"
    refine a_ascii ?_
    rw [num_ascii hk]
    walk_at "go"
    refine a_digit ?_
    rw [num_digit hk]
    walk_at "go"
    refine r_eqs ?_
    walk_at "go"
    refine i_dec (fun c => ?_) (fun c => ?_)
    · walk_at "go"
      exact q
    · have k0 : k ≠ 0 := fun e => c (by rw [e]; decide +kernel)
      obtain ⟨d, r, e⟩ : ∃ d r, TL.numL k = d :: r := by
        cases h : TL.numL k with
        | nil => exact absurd h (TL.numL_ne k)
        | cons d r => exact ⟨d, r, rfl⟩
      have hd : d ≠ 48 := fun z => (num_ok k hk).2.2.2.2 k0 (by rw [e, z]; rfl)
      have hl := (num_ok k hk).2.2.1
      have hl2 := num_len hk
      have hr1 : r.length ≤ 1000 := by rw [e, List.length_cons] at hl; omega
      rw [numS_mk, e]
      walk_at "go"
      refine a_ixs hr1 ?_
      walk_at "go"
      refine r_nes ?_
      walk_at "go"
      have s0 : Str.ofString "0" = mkS [48] := by decide +kernel
      rw [s0]
      refine n_no (fun z => hd ?_) ?_
      · have z2 := congrArg TL.tl z
        have z3 : [d] = [48] := z2
        exact (List.cons.inj z3).1
      walk_at "go"
      refine a_lens (by rw [mkS_len, ← e]; omega) ?_
      walk_at "go"
      rw [decide_eq_true (by rw [mkS_len, ← e]; omega)]
      exact q
theorem sc_numbers : FnScope ["part", "words", "word"] ["part"] (defScope s_numbers) := ⟨rfl, rfl, rfl, by decide +kernel, rfl, by decide +kernel, by decide +kernel⟩
theorem bd_numbers : BindsP "_numbers" "_numbers" s_numbers ["part"] := fun _ _ _ _ _ _ us hl => match us, hl with | [_], _ => rfl
def sp_numbers : Sp := fun vs H Q _ => ∃ (ns : List Nat), vs = [.str (spaced ns)] ∧ ns ≠ [] ∧ (∀ k ∈ ns, k < 100) ∧ ns.length ≤ 100 ∧ ∀ p H', H p = none → Same H H' → H' p = some (.lst (intsV ns)) → Q (.ref p) H'
set_option maxHeartbeats 4000000 in
theorem ok_numbers (T : Tx K mg) : FnR P w K mg base CX0 2 (He.ga K "_numbers") (sp_numbers ) := by
  refine (T.F_numbers).ok sc_numbers bd_numbers (fun vs H Q E h => ?_) (fun cdv A outer s H vs Q E hr h => ?_)
  · obtain ⟨ns, rfl, _⟩ := h
    rfl
  · obtain ⟨ns, rfl, hne, hk, hl, q⟩ := h
    refine ⟨_, (pss_cons (ps_set (i := 1) sc_numbers.nd rfl (by first | exact Or.inl rfl | exact Or.inr rfl) (splitK (pv 0) pe_str)) (pss_cons (ps_for PassesOwn.never rfl (pilK (K := K) rfl (pv 1)) (pg_name (i := 2) sc_numbers.nd rfl (by first | exact Or.inl rfl | exact Or.inr rfl)) (pss_one (ps_if (pt_not (pt_val (pe_f (ok_is_number (K := K) T) (hr.mono (by decide)) rfl T.g_is_number T.k_is_number pass0 (pa_cons (pv 2) pa_nil)))) (pss_one (ps_ret pe_non)) pss_nil))) (pss_one (ps_ret (pe_lc (own := [("word", 2)]) (g := gName 2) rfl sc_numbers.nd (pilK (K := K) rfl (pv 1)) (blkOk_by (own := [("word", 2)]) (N := ["part", "words", "word"]) (sc := defScope s_numbers) (by decide +kernel)) (fun _ _ _ _ _ => pg_name (i := 2) sc_numbers.nd rfl (Or.inl rfl)) (fun _ _ _ _ _ => pts_nil) (fun _ _ _ _ _ => (pe_callTy intSR (by rfl) T.n_int (by decide +kernel) (pa_cons (pv 2) pa_nil)))))))), ?_⟩
    walk_at "go"
    refine a_split (by decide +kernel) (Nat.le_trans (spaced_len hk hl) (by decide)) (spaced_split hne) fun wp H1 hwp e1 h1 => ?_
    walk_at "go"
    have h1 : H1 wp = some (.lst (ns.map fun k => V.str (numS k))) := by rw [h1, List.map_map]; rfl
    refine a_il h1 ?_
    refine fo_list (xs := ns.map fun k => V.str (numS k)) (fun i σ H' => ∃ (v2 : Option V), H' = H1 ∧ σ = [some (.str (spaced ns)), some (.ref wp), v2]) ⟨none, rfl, rfl⟩ (fun i σ H' _ ⟨_, e, _⟩ => by rw [e]; exact SqL.of h1) ?_ ?_
    · rintro i x σ H2 hi ⟨v2, rfl, rfl⟩
      rw [List.getElem?_map] at hi
      obtain ⟨k, hk1, rfl⟩ : ∃ z, ns[i]? = some z ∧ V.str (numS z) = x := Option.map_eq_some_iff.mp hi
      walk_at "go"
      refine ⟨k, rfl, hk k (List.mem_of_getElem? hk1), ?_⟩
      walk_at "go"
      exact ⟨_, rfl, rfl⟩
    · rintro σ H2 ⟨v2, rfl, rfl⟩
      walk_at "go"
      refine a_il h1 ?_
      refine l_list (fun _ => true) (fun i => .int (ns.getD i 0 : Int)) (SqL.of h1) (by rw [List.length_map]; omega) (fun _ => rfl) (fun i x H3 hi e R c => ?_) (fun i x H3 hi e hf R c => ?_) (fun D H3 hD e3 hd => ?_)
      · walk_at "go"
        exact c H3 (Same.refl _)
      · rw [List.getElem?_map] at hi
        obtain ⟨k, hk1, rfl⟩ : ∃ z, ns[i]? = some z ∧ V.str (numS z) = x := Option.map_eq_some_iff.mp hi
        have ed : ns.getD i 0 = k := by rw [List.getD_eq_getElem?_getD, hk1]; rfl
        rw [ed] at c
        walk_at "go"
        exact a_intS (hk k (List.mem_of_getElem? hk1)) (c H3 (Same.refl _))
      refine q D H3 (e1.free hD) (e1.trans e3) ?_
      rw [hd]
      congr 2
      unfold giv intsV
      rw [List.filter_eq_self.mpr (fun _ _ => rfl), List.length_map]
      apply List.ext_getElem
      · simp
      · intro k h1 h2
        have hk : k < ns.length := by simpa using h2
        simp only [List.getElem_map, List.getElem_range']
        rw [Nat.zero_add, Nat.one_mul, List.getD_eq_getElem?_getD, List.getElem?_eq_getElem hk]
        rfl
theorem sc_read_rights : FnScope ["part", "rights", "node", "link"] ["part"] (defScope s_read_rights) := ⟨rfl, rfl, rfl, by decide +kernel, rfl, by decide +kernel, by decide +kernel⟩
theorem bd_read_rights : BindsP "_read_rights" "_read_rights" s_read_rights ["part"] := fun _ _ _ _ _ _ us hl => match us, hl with | [_], _ => rfl
def sp_read_rights : Sp := fun vs H Q _ => ∃ (n : Nat) (ps : Lk.PL), vs = [.str (spaced (rsL n ps))] ∧ Lk.OK n ps ∧ n ≤ 60 ∧ ∀ p H', H p = none → Same H H' → H' p = some (.lst (intsV (rsL n ps))) → Q (.ref p) H'
set_option maxHeartbeats 4000000 in
theorem ok_read_rights (T : Tx K mg) : FnR P w K mg base CX0 3 (He.ga K "_read_rights") (sp_read_rights ) := by
  refine (T.F_read_rights).ok sc_read_rights bd_read_rights (fun vs H Q E h => ?_) (fun cdv A outer s H vs Q E hr h => ?_)
  · obtain ⟨n, ps, rfl, _⟩ := h
    rfl
  · obtain ⟨n, ps, rfl, o, hn, q⟩ := h
    have hl := rsL_len n ps
    refine ⟨_, (pss_cons (ps_set (i := 1) sc_read_rights.nd rfl (by first | exact Or.inl rfl | exact Or.inr rfl) (pe_f (ok_numbers (K := K) T) (hr.mono (by decide)) rfl T.g_numbers T.k_numbers pass0 (pa_cons (pv 0) pa_nil))) (pss_cons (ps_if (PW.pt (pw_or (pt_cmpR op_isN1 (pv 1) pe_non (nomark _)) (pw_or1 (pt_cmpR op_gt (pe_callB (lenK (K := K) rfl) (by rfl) T.n_len PySem.boot_len (pa_cons (pv 1) pa_nil)) (pe_op op_add (cvalK (K := K) rfl (pe_glob (v := V.ref (He.ga K "Links")) rfl T.g_Links rfl)) pe_int) (nomark _))))) (pss_one (ps_ret pe_non)) pss_nil) (pss_cons (ps_for PassesOwn.never rfl (enumK (K := K) rfl (by rfl) T.n_enumerate (pa_cons (pv 1) pa_nil)) (ptupK (K := K) rfl (by rfl) (pgs_cons (pg_name (i := 2) sc_read_rights.nd rfl (by first | exact Or.inl rfl | exact Or.inr rfl)) (pgs_cons (pg_name (i := 3) sc_read_rights.nd rfl (by first | exact Or.inl rfl | exact Or.inr rfl)) pgs_nil))) (pss_one (ps_if (pt_not (pt_chain op_lt op_le (pv 2) (pv 3) (pe_callB (lenK (K := K) rfl) (by rfl) T.n_len PySem.boot_len (pa_cons (pv 1) pa_nil)))) (pss_one (ps_ret pe_non)) pss_nil))) (pss_one (ps_ret (pv 1)))))), ?_⟩
    walk_at "go"
    refine ⟨rsL n ps, rfl, (fun z => by rw [z] at hl; cases hl), rsL_lt o hn, by omega, fun p H1 hp e1 h1 => ?_⟩
    walk_at "go"
    refine a_len h1 ?_
    rw [intsV_len, hl]
    walk_at "go"
    refine a_most T ?_
    walk_at "go"
    refine i_no (by omega) ?_
    walk_at "go"
    refine a_en h1 ?_
    refine fo_enum (xs := intsV (rsL n ps)) (fun i σ H' => ∃ (v2 v3 : Option V), σ = [some (.str (spaced (rsL n ps))), some (.ref p), v2, v3] ∧ Same H1 H') ⟨none, none, rfl, Same.refl _⟩ (fun i σ H' _ ⟨_, _, _, e⟩ => SqL.of (e _ _ h1)) ?_ ?_
    · rintro i x t σ H2 H3 hi ⟨v2, v3, rfl, e2⟩ ht e3 ht3
      have hlt := (List.getElem?_eq_some_iff.mp hi).1
      rw [intsV_len, hl] at hlt
      rw [intsV_get (rsL_get hlt)] at hi
      cases hi
      have b := rs_bound o (x := i) (by omega)
      refine a_gtup2 ht3 ?_
      walk_at "go"
      refine i_yes (by omega) ?_
      walk_at "go"
      refine a_len (e3 _ _ (e2 _ _ h1)) ?_
      rw [intsV_len, hl]
      walk_at "go"
      refine n_yes (by omega) ?_
      walk_at "go"
      exact ⟨_, _, rfl, e2.trans e3⟩
    · rintro σ H2 ⟨v2, v3, rfl, e2⟩
      walk_at "go"
      exact q p H2 hp (e1.trans e2) (e2 _ _ h1)
theorem sc_read_lefts : FnScope ["part", "size", "lefts", "index", "link"] ["part", "size"] (defScope s_read_lefts) := ⟨rfl, rfl, rfl, by decide +kernel, rfl, by decide +kernel, by decide +kernel⟩
theorem bd_read_lefts : BindsP "_read_lefts" "_read_lefts" s_read_lefts ["part", "size"] := fun _ _ _ _ _ _ us hl => match us, hl with | [_, _], _ => rfl
def sp_read_lefts : Sp := fun vs H Q _ => ∃ (n : Nat) (ps : Lk.PL), vs = [.str (spaced (lsL n ps)), .int (n : Int)] ∧ Lk.OK n ps ∧ n ≤ 60 ∧ ∀ p H', H p = none → Same H H' → H' p = some (.lst (intsV (lsL n ps))) → Q (.ref p) H'
set_option maxHeartbeats 4000000 in
theorem ok_read_lefts (T : Tx K mg) : FnR P w K mg base CX0 3 (He.ga K "_read_lefts") (sp_read_lefts ) := by
  refine (T.F_read_lefts).ok sc_read_lefts bd_read_lefts (fun vs H Q E h => ?_) (fun cdv A outer s H vs Q E hr h => ?_)
  · obtain ⟨n, ps, rfl, _⟩ := h
    rfl
  · obtain ⟨n, ps, rfl, o, hn, q⟩ := h
    have hl := lsL_len n ps
    refine ⟨_, (pss_cons (ps_set (i := 2) sc_read_lefts.nd rfl (by first | exact Or.inl rfl | exact Or.inr rfl) (pe_f (ok_numbers (K := K) T) (hr.mono (by decide)) rfl T.g_numbers T.k_numbers pass0 (pa_cons (pv 0) pa_nil))) (pss_cons (ps_if (PW.pt (pw_or (pt_cmpR op_isN1 (pv 2) pe_non (nomark _)) (pw_or1 (pt_cmpR op_ne (pe_callB (lenK (K := K) rfl) (by rfl) T.n_len PySem.boot_len (pa_cons (pv 2) pa_nil)) (pe_op op_add (pv 1) pe_int) (nomark _))))) (pss_one (ps_ret pe_non)) pss_nil) (pss_cons (ps_for PassesOwn.never rfl (enumK (K := K) rfl (by rfl) T.n_enumerate (pa_cons (pv 2) pa_nil)) (ptupK (K := K) rfl (by rfl) (pgs_cons (pg_name (i := 3) sc_read_lefts.nd rfl (by first | exact Or.inl rfl | exact Or.inr rfl)) (pgs_cons (pg_name (i := 4) sc_read_lefts.nd rfl (by first | exact Or.inl rfl | exact Or.inr rfl)) pgs_nil))) (pss_one (ps_if (pt_cmpR op_gt (pv 4) (pv 3) (nomark _)) (pss_one (ps_ret pe_non)) pss_nil))) (pss_one (ps_ret (pv 2)))))), ?_⟩
    walk_at "go"
    refine ⟨lsL n ps, rfl, (fun z => by rw [z] at hl; cases hl), lsL_lt o hn, by omega, fun p H1 hp e1 h1 => ?_⟩
    walk_at "go"
    refine a_len h1 ?_
    rw [intsV_len, hl]
    walk_at "go"
    refine n_yes (by omega) ?_
    walk_at "go"
    refine a_en h1 ?_
    refine fo_enum (xs := intsV (lsL n ps)) (fun i σ H' => ∃ (v2 v3 : Option V), σ = [some (.str (spaced (lsL n ps))), some (.int (n : Int)), some (.ref p), v2, v3] ∧ Same H1 H') ⟨none, none, rfl, Same.refl _⟩ (fun i σ H' _ ⟨_, _, _, e⟩ => SqL.of (e _ _ h1)) ?_ ?_
    · rintro i x t σ H2 H3 hi ⟨v2, v3, rfl, e2⟩ ht e3 ht3
      have hlt := (List.getElem?_eq_some_iff.mp hi).1
      rw [intsV_len, hl] at hlt
      rw [intsV_get (lsL_get hlt)] at hi
      cases hi
      have b := ls_bound o (x := i + 1) (by omega) (by omega)
      refine a_gtup2 ht3 ?_
      walk_at "go"
      refine i_no (by omega) ?_
      walk_at "go"
      exact ⟨_, _, rfl, e2.trans e3⟩
    · rintro σ H2 ⟨v2, v3, rfl, e2⟩
      walk_at "go"
      exact q p H2 hp (e1.trans e2) (e2 _ _ h1)
theorem sc_read_outs : FnScope ["part", "size", "outs", "last", "node"] ["part", "size"] (defScope s_read_outs) := ⟨rfl, rfl, rfl, by decide +kernel, rfl, by decide +kernel, by decide +kernel⟩
theorem bd_read_outs : BindsP "_read_outs" "_read_outs" s_read_outs ["part", "size"] := fun _ _ _ _ _ _ us hl => match us, hl with | [_, _], _ => rfl
theorem outsN_lt2 {n : Nat} {ps : Lk.PL} {i : Nat} {y : Nat} (h : (outsN n ps)[i]? = some y) : 1 ≤ y ∧ y ≤ n := by
  obtain ⟨hx, _⟩ := List.mem_filter.mp (List.mem_of_getElem? h)
  have := List.mem_range'_1.mp hx
  omega
theorem outsN_inc {n : Nat} {ps : Lk.PL} {i x y : Nat} (h : (outsN n ps)[i]? = some x) (h2 : (outsN n ps)[i + 1]? = some y) : x < y := by
  have p : (outsN n ps).Pairwise (· < ·) := List.Pairwise.filter (outB ps) (List.pairwise_lt_range' (step := 1))
  have q := List.pairwise_iff_getElem.mp p i (i + 1) (List.getElem?_eq_some_iff.mp h).1 (List.getElem?_eq_some_iff.mp h2).1 (by omega)
  rw [(List.getElem?_eq_some_iff.mp h).2, (List.getElem?_eq_some_iff.mp h2).2] at q
  exact q
def sp_read_outs : Sp := fun vs H Q _ => ∃ (n : Nat) (ps : Lk.PL), vs = [.str (outsT (outsN n ps)), .int (n : Int)] ∧ n ≤ 60 ∧ ∀ p H', H p = none → Same H H' → H' p = some (.lst (intsV (outsN n ps))) → Q (.ref p) H'
set_option maxHeartbeats 4000000 in
theorem ok_read_outs (T : Tx K mg) : FnR P w K mg base CX0 3 (He.ga K "_read_outs") (sp_read_outs ) := by
  refine (T.F_read_outs).ok sc_read_outs bd_read_outs (fun vs H Q E h => ?_) (fun cdv A outer s H vs Q E hr h => ?_)
  · obtain ⟨n, ps, rfl, _⟩ := h
    rfl
  · obtain ⟨n, ps, rfl, hn, q⟩ := h
    have ol := outsN_len n ps
    refine ⟨_, (pss_cons (ps_if (pt_cmpR op_eq (pv 0) pe_str (nomark _)) (pss_one (ps_ret (pe_lst pa_nil))) pss_nil) (pss_cons (ps_set (i := 2) sc_read_outs.nd rfl (by first | exact Or.inl rfl | exact Or.inr rfl) (pe_f (ok_numbers (K := K) T) (hr.mono (by decide)) rfl T.g_numbers T.k_numbers pass0 (pa_cons (pv 0) pa_nil))) (pss_cons (ps_if (pt_cmpR op_isN1 (pv 2) pe_non (nomark _)) (pss_one (ps_ret pe_non)) pss_nil) (pss_cons (ps_set (i := 3) sc_read_outs.nd rfl (by first | exact Or.inl rfl | exact Or.inr rfl) pe_int) (pss_cons (ps_for PassesOwn.never rfl (pilK (K := K) rfl (pv 2)) (pg_name (i := 4) sc_read_outs.nd rfl (by first | exact Or.inl rfl | exact Or.inr rfl)) (pss_cons (ps_if (pt_not (pt_chain op_lt op_le (pv 3) (pv 4) (pv 1))) (pss_one (ps_ret pe_non)) pss_nil) (pss_one (ps_set (i := 3) sc_read_outs.nd rfl (by first | exact Or.inl rfl | exact Or.inr rfl) (pv 4))))) (pss_one (ps_ret (pv 2)))))))), ?_⟩
    walk_at "go"
    refine r_eqs ?_
    walk_at "go"
    by_cases en : outsN n ps = []
    · refine i_yes (by unfold outsT; rw [if_pos en]) ?_
      walk_at "go"
      refine a_lst (xs := []) (fun p H1 hp e1 h1 => ?_) (Nat.zero_le _)
      exact q p H1 hp e1 (by rw [h1, en]; rfl)
    · have es : outsT (outsN n ps) = spaced (outsN n ps) := by unfold outsT; rw [if_neg en]
      refine i_no (by
        rw [es]
        cases h : outsN n ps with
        | nil => exact absurd h en
        | cons y ys => exact spaced_none) ?_
      rw [es]
      walk_at "go"
      refine ⟨outsN n ps, rfl, en, outsN_lt hn, by omega, fun p H1 hp e1 h1 => ?_⟩
      walk_at "go"
      refine a_il h1 ?_
      refine fo_list (xs := intsV (outsN n ps)) (fun i σ H' => ∃ (la : Nat) (v4 : Option V), H' = H1 ∧ σ = [some (.str (spaced (outsN n ps))), some (.int (n : Int)), some (.ref p), some (.int (la : Int)), v4] ∧ ∀ y, (outsN n ps)[i]? = some y → la < y) ⟨0, none, rfl, rfl, fun y hy => (outsN_lt2 hy).1⟩ (fun i σ H' _ ⟨_, _, e, _⟩ => by rw [e]; exact SqL.of h1) ?_ ?_
      · rintro i x σ H2 hi ⟨la, v4, rfl, rfl, hla⟩
        obtain ⟨y, hy, rfl⟩ := intsV_of hi
        have b := outsN_lt2 hy
        have b2 := hla y hy
        walk_at "go"
        refine i_yes (by omega) ?_
        walk_at "go"
        refine n_yes (by omega) ?_
        walk_at "go"
        exact ⟨y, _, rfl, rfl, fun z hz => outsN_inc hy hz⟩
      · rintro σ H2 ⟨la, v4, rfl, rfl, hla⟩
        walk_at "go"
        exact q p H2 hp e1 h1
theorem sc_Links_read : FnScope ["text", "parts", "rights", "size", "lefts", "outs", "flags", "node"] ["text"] (defScope s_Links_read) := ⟨rfl, rfl, rfl, by decide +kernel, rfl, by decide +kernel, by decide +kernel⟩
theorem bd_Links_read : BindsP "read" "Links.read" s_Links_read ["text"] := fun _ _ _ _ _ _ us hl => match us, hl with | [_], _ => rfl
def sp_Links_read (K : PySem.W.Frag) : Sp := fun vs H Q _ => ∃ (n : Nat) (ps : Lk.PL), vs = [.str (dumpOf n ps)] ∧ Lk.OK n ps ∧ n ≤ 60 ∧ ∀ l H', H l = none → Same H H' → LinksAt K H' l n ps → Q (.ref l) H'
set_option maxHeartbeats 4000000 in
theorem ok_Links_read (T : Tx K mg) : FnR P w K mg base CX0 5 (He5.wf K (He.ga K "Links") "staticmethod" "read") (sp_Links_read K) := by
  refine (T.F_Links_read).ok sc_Links_read bd_Links_read (fun vs H Q E h => ?_) (fun cdv A outer s H vs Q E hr h => ?_)
  · obtain ⟨n, ps, rfl, _⟩ := h
    rfl
  · obtain ⟨n, ps, rfl, o, hn, q⟩ := h
    have ol := outsN_len n ps
    have b1 := spaced_len (rsL_lt o hn) (by rw [rsL_len]; omega)
    have b2 := spaced_len (lsL_lt o hn) (by rw [lsL_len]; omega)
    have b3 := spaced_len (outsN_lt (ps := ps) hn) (by omega)
    have lb : (Str.ofString " | ").length = 3 := by decide +kernel
    have ln : (Str.ofString "none").length = 4 := by decide +kernel
    have b4 : (outsT (outsN n ps)).length ≤ 1000 := by unfold outsT; split <;> omega
    have bd : (dumpOf n ps).length ≤ 90000 := by unfold dumpOf; rw [Str.length_append, Str.length_append, Str.length_append, Str.length_append]; omega
    refine ⟨_, (pss_cons (ps_set (i := 1) sc_Links_read.nd rfl (by first | exact Or.inl rfl | exact Or.inr rfl) (splitK (pv 0) pe_str)) (pss_cons (ps_set (i := 2) sc_Links_read.nd rfl (by first | exact Or.inl rfl | exact Or.inr rfl) (pe_f (ok_read_rights (K := K) T) (hr.mono (by decide)) rfl T.g_read_rights T.k_read_rights pass0 (pa_cons (pe_ix (ixl (K := K) rfl) (pv 1) pe_int (fun _ _ => rfl)) pa_nil))) (pss_cons (ps_if (pt_cmpR op_isN1 (pv 2) pe_non (nomark _)) (pss_one ps_never) pss_nil) (pss_cons (ps_set (i := 3) sc_Links_read.nd rfl (by first | exact Or.inl rfl | exact Or.inr rfl) (pe_op op_sub (pe_callB (lenK (K := K) rfl) (by rfl) T.n_len PySem.boot_len (pa_cons (pv 2) pa_nil)) pe_int)) (pss_cons (ps_set (i := 4) sc_Links_read.nd rfl (by first | exact Or.inl rfl | exact Or.inr rfl) (pe_ifExp (pt_cmpR op_gt (pe_callB (lenK (K := K) rfl) (by rfl) T.n_len PySem.boot_len (pa_cons (pv 1) pa_nil)) pe_int (nomark _)) (pe_f (ok_read_lefts (K := K) T) (hr.mono (by decide)) rfl T.g_read_lefts T.k_read_lefts pass0 (pa_cons (pe_ix (ixl (K := K) rfl) (pv 1) pe_int (fun _ _ => rfl)) (pa_cons (pv 3) pa_nil))) pe_non)) (pss_cons (ps_if (pt_cmpR op_isN1 (pv 4) pe_non (nomark _)) (pss_one ps_never) pss_nil) (pss_cons (ps_set (i := 5) sc_Links_read.nd rfl (by first | exact Or.inl rfl | exact Or.inr rfl) (pe_ifExp (pt_cmpR op_gt (pe_callB (lenK (K := K) rfl) (by rfl) T.n_len PySem.boot_len (pa_cons (pv 1) pa_nil)) pe_int (nomark _)) (pe_f (ok_read_outs (K := K) T) (hr.mono (by decide)) rfl T.g_read_outs T.k_read_outs pass0 (pa_cons (pe_ix (ixl (K := K) rfl) (pv 1) pe_int (fun _ _ => rfl)) (pa_cons (pv 3) pa_nil))) pe_non)) (pss_cons (ps_if (pt_cmpR op_isN1 (pv 5) pe_non (nomark _)) (pss_one ps_never) pss_nil) (pss_cons (ps_if (pt_cmpR op_gt (pe_callB (lenK (K := K) rfl) (by rfl) T.n_len PySem.boot_len (pa_cons (pv 1) pa_nil)) (pe_gi rfl T.g_PARTS) (nomark _)) (pss_one ps_never) pss_nil) (pss_cons (ps_set (i := 6) sc_Links_read.nd rfl (by first | exact Or.inl rfl | exact Or.inr rfl) (pe_op op_rep (pe_lst (pa_cons pe_bl pa_nil)) (pe_op op_add (pv 3) pe_int))) (pss_cons (ps_for PassesOwn.never rfl (pilK (K := K) rfl (pv 5)) (pg_name (i := 7) sc_Links_read.nd rfl (by first | exact Or.inl rfl | exact Or.inr rfl)) (pss_one (ps_asg pe_bl (pg_sub (pv 6) (pv 7) set_list)))) (pss_one (ps_ret (pe_smeth (pe_glob (v := V.ref (He.ga K "Links")) rfl T.g_Links rfl) T.crLinks T.stLinks_built (ok_Links_built (K := K) T) (hr.mono (by decide)) pass0 (pa_cons (pv 3) (pa_cons (pe_op op_cat (pe_lst (pa_cons (pe_un un_neg pe_int) pa_nil)) (pv 4)) (pa_cons (pe_op op_cat (pv 2) (pe_lst (pa_cons (pe_op op_add (pv 3) pe_int) pa_nil))) (pa_cons (pv 6) pa_nil)))))))))))))))))), ?_⟩
    walk_at "go"
    refine a_split (by decide +kernel) bd (dump_split n ps) fun pp H1 hpp e1 h1 => ?_
    walk_at "go"
    refine r_ixl (i := 0) h1 rfl ?_
    walk_at "go"
    refine ⟨n, ps, rfl, o, hn, fun rp H2 hrp e2 h2 => ?_⟩
    walk_at "go"
    refine a_len h2 ?_
    rw [intsV_len, rsL_len]
    walk_at "go"
    have h12 := e2 _ _ h1
    refine a_len h12 ?_
    walk_at "go"
    refine i_yes (by simp) ?_
    walk_at "go"
    refine r_ixl (i := 1) h12 rfl ?_
    walk_at "go"
    have en : (((n + 1 : Nat) : Int) - 1) = (n : Int) := by omega
    rw [en]
    refine ⟨n, ps, rfl, o, hn, fun lp H3 hlp e3 h3 => ?_⟩
    walk_at "go"
    have h13 := e3 _ _ h12
    refine a_len h13 ?_
    walk_at "go"
    refine i_yes (by simp) ?_
    walk_at "go"
    refine r_ixl (i := 2) h13 rfl ?_
    walk_at "go"
    refine ⟨n, ps, rfl, hn, fun op H4 hop e4 h4 => ?_⟩
    walk_at "go"
    have h14 := e4 _ _ h13
    refine a_len h14 ?_
    walk_at "go"
    refine i_no (by simp) ?_
    walk_at "go"
    refine a_lst fun z H5 hz e5 h5 => ?_
    walk_at "go"
    refine a_repI (n + 2) (by omega) h5 (by omega) fun fp H6 hfp e6 h6 => ?_
    walk_at "go"
    have e16 := ((((e1.trans e2).trans e3).trans e4).trans e5).trans e6
    have nf : H fp = none := ((((e1.trans e2).trans e3).trans e4).trans e5).free hfp
    have h46 : H6 op = some (.lst (intsV (outsN n ps))) := e6 _ _ (e5 _ _ h4)
    have h36 : H6 lp = some (.lst (intsV (lsL n ps))) := e6 _ _ (e5 _ _ (e4 _ _ h3))
    have h26 : H6 rp = some (.lst (intsV (rsL n ps))) := e6 _ _ (e5 _ _ (e4 _ _ (e3 _ _ h2)))
    have n1 : op ≠ fp := ne_of_none (e5 _ _ h4) hfp
    have n2 : lp ≠ fp := ne_of_none (e5 _ _ (e4 _ _ h3)) hfp
    have n3 : rp ≠ fp := ne_of_none (e5 _ _ (e4 _ _ (e3 _ _ h2))) hfp
    refine a_il h46 ?_
    refine fo_list (xs := intsV (outsN n ps)) (fun i σ H' => ∃ (v7 : Option V), σ = [some (.str (dumpOf n ps)), some (.ref pp), some (.ref rp), some (.int (n : Int)), some (.ref lp), some (.ref op), some (.ref fp), v7] ∧ Same H H' ∧
        H' op = some (.lst (intsV (outsN n ps))) ∧ H' lp = some (.lst (intsV (lsL n ps))) ∧ H' rp = some (.lst (intsV (rsL n ps))) ∧ H' fp = some (.lst (listV n fun x => .bl (decide (x ∈ (outsN n ps).take i)))))
      ⟨none, rfl, e16, h46, h36, h26, ?_⟩ (fun i σ H' _ ⟨_, _, _, e, _⟩ => SqL.of e) ?_ ?_
    · rw [h6]
      congr 2
      refine listV_ext (by rw [List.length_replicate]) fun i hi => ?_
      rw [List.getElem?_replicate, if_pos hi]
      simp
    · rintro i x σ H7 hi ⟨v7, rfl, e7, k1, k2, k3, k4⟩
      obtain ⟨y, hy, rfl⟩ := intsV_of hi
      have b := outsN_lt2 hy
      walk_at "go"
      refine a_set k4 (by rw [listV_len]; omega) fun H8 h8 b8 => ?_
      refine ⟨_, rfl, Same.but e7 nf b8, by rw [b8 op n1]; exact k1, by rw [b8 lp n2]; exact k2, by rw [b8 rp n3]; exact k3, ?_⟩
      rw [h8]
      congr 2
      refine listV_set (by omega) ?_ fun z hz hz2 => ?_
      · rw [take_succ hy]
        simp
      · rw [take_succ hy]
        simp [hz]
    · rintro σ H7 ⟨v7, rfl, e7, k1, k2, k3, k4⟩
      rw [intsV_len, List.take_length] at k4
      walk_at "go"
      refine ⟨rfl, ?_⟩
      walk_at "go"
      refine a_lst fun z1 H8 hz1 e8 h8 => ?_
      walk_at "go"
      refine a_lcat h8 (e8 _ _ k2) (by rw [intsV_len, lsL_len]; simp only [List.length_singleton]; omega) fun c1 H9 hc1 e9 h9 => ?_
      walk_at "go"
      refine a_lst fun z2 H10 hz2 e10 h10 => ?_
      walk_at "go"
      refine a_lcat (e10 _ _ (e9 _ _ (e8 _ _ k3))) h10 (by rw [intsV_len, rsL_len]; simp only [List.length_singleton]; omega) fun c2 H11 hc2 e11 h11 => ?_
      walk_at "go"
      have e8b := ((e8.trans e9).trans e10).trans e11
      refine ⟨n, c1, c2, fp, _, _, _, rfl, e11 _ _ (e10 _ _ h9), h11, e8b _ _ k4, hn, fun l H12 dx la ra fa N => ?_⟩
      have eA := (e7.trans e8b)
      have L := N.at_
      have q2 := q l H12 (eA.free N.l_) (eA.trans N.same)
      refine q2 ⟨dx, la, ra, fa, ?_⟩
      have x1 : [V.int (-1)] ++ intsV (lsL n ps) = listV n (leftV ps) := by
        refine listV_ext (by rw [List.length_append, intsV_len, lsL_len]; simp only [List.length_singleton]; omega) fun i hi => ?_
        cases i with
        | zero => rfl
        | succ j =>
          rw [leftV_pos (by omega)]
          show (intsV (lsL n ps))[j]? = _
          exact intsV_get (lsL_get (by omega))
      have x2 : intsV (rsL n ps) ++ [V.int ((n : Int) + 2)] = listV n (rightV n ps) := by
        refine listV_ext (by rw [List.length_append, intsV_len, rsL_len]; simp only [List.length_singleton]) fun i hi => ?_
        by_cases hi2 : i < n + 1
        · rw [List.getElem?_append_left (by rw [intsV_len, rsL_len]; exact hi2), rightV_le (by omega)]
          exact intsV_get (rsL_get hi2)
        · have ei : i = n + 1 := by omega
          subst ei
          rw [List.getElem?_append_right (by rw [intsV_len, rsL_len]; exact Nat.le_refl _), intsV_len, rsL_len, Nat.sub_self]
          unfold rightV
          rw [if_pos rfl]
          rfl
      have x3 : (listV n fun x => V.bl (decide (x ∈ outsN n ps))) = listV n (flagV ps) := by
        refine listV_congr fun y _ => ?_
        by_cases h : Lk.at_ ps y = none
        · rw [flag_f h, decide_eq_false (fun z => (outsN_mem o).mp z h)]
        · obtain ⟨a, b, e⟩ := Lk.ne_none h
          rw [flag_t e, decide_eq_true ((outsN_mem o).mpr h)]
      rw [x1, x2, x3] at L
      exact L
end
end Lw
set_option Elab.async false
set_option linter.all false
set_option maxRecDepth 100000
set_option maxHeartbeats 4000000
namespace Lw
open PySem PySem.Spec PyProof.Rows L2
local macro_rules | `(tactic| walk_at "h") => `(tactic| first | assumption | (refine (by assumption : Same _ _) _ _ ?_; walk_at "h"))
local macro_rules | `(tactic| walk_at "g1") => `(tactic| first
  | with_reducible refine g_seq ?_ | with_reducible refine g_asg ?_ | with_reducible refine g_name ?_ | with_reducible refine g_drop ?_ | with_reducible refine g_ret ?_ | with_reducible refine g_retN ?_
  | with_reducible refine g_next ?_ | with_reducible refine g_brk ?_ | with_reducible refine g_cont ?_ | with_reducible refine g_if ?_ | ((with_reducible show tVar _ _ _ _); refine ⟨_, rfl, ?_⟩) | with_reducible refine g_c ?_
  | with_reducible refine g_op ?_ | with_reducible refine g_un ?_ | with_reducible refine g_ifE ?_ | with_reducible refine g_test ?_ | with_reducible refine g_B ?_ | with_reducible refine g_and ?_ | with_reducible refine g_or ?_ | with_reducible refine g_not ?_
  | with_reducible refine g_andV ?_ | with_reducible refine g_orV ?_ | with_reducible refine g_notV ?_ | with_reducible refine g_nil ?_ | with_reducible refine g_cons ?_ | with_reducible refine g_cb ?_ | with_reducible refine g_f ?_
  | with_reducible refine g_bl ?_ | with_reducible refine g_blV ?_ | with_reducible refine g_part ?_ | with_reducible refine g_nopart ?_ | with_reducible refine g_sl ?_ | with_reducible refine g_intx ?_
  | with_reducible refine r_i0 ?_ | with_reducible refine r_eqi ?_ | with_reducible refine r_nei ?_ | with_reducible refine r_u ?_
  | with_reducible refine r_isN_non ?_ | with_reducible refine r_isN_ref ?_ | with_reducible refine r_isN_int ?_ | with_reducible refine r_notN_non ?_ | with_reducible refine r_notN_ref ?_
  | with_reducible refine h_lc ?_ | with_reducible refine h_for ?_ | with_reducible refine h_rng1 ?_ | with_reducible refine h_rng2 ?_ | with_reducible refine h_ilist ?_ | with_reducible refine h_lst ?_ | with_reducible refine h_tup ?_
  | with_reducible refine h_fld ?_ | with_reducible refine h_m ?_ | with_reducible refine g_sm ?_ | with_reducible refine g_cm ?_ | with_reducible refine h_mk ?_ | with_reducible refine g_chain ?_ | with_reducible refine g_asgsub ?_ | with_reducible refine g_sfld ?_
  | with_reducible refine g_bm ?_ | with_reducible refine g_bm0 ?_
  | ((with_reducible refine' r_tup0 ?gh ?_); (case gh => walk_at "h")) | ((with_reducible refine' r_tup1 ?gh ?_); (case gh => walk_at "h"))
  | ((with_reducible refine' And.intro (ty_lst ?gh) ?_); (case gh => walk_at "h"))
  | with_reducible refine h_lrg ?_ | with_reducible refine h_rg1 ?_ | with_reducible refine h_rg2 ?_ | with_reducible refine g_int2 ?_ | with_reducible refine h_sfld ?_ | with_reducible refine h_augx rfl ?_ | with_reducible refine h_tru ?_ | with_reducible refine g_ipI ?_ | with_reducible refine h_enum ?_ | with_reducible refine h_enumS ?_ | with_reducible refine h_m1 ?_ | with_reducible refine g_isS ?_ | with_reducible refine h_m0 ?_ | with_reducible refine h_cval ?_
  | with_reducible refine i_true ?_ | with_reducible refine i_false ?_ | with_reducible refine i_nt ?_ | with_reducible refine i_nf ?_)
local macro_rules | `(tactic| walk_at "go") => `(tactic| ((repeat' walk_at "g1"); (try dsimp only)))
section
variable {P : Program} {w : World} {K : PySem.W.Frag} {mg : Str → Option Value} {base : Heap}
theorem sc_followers : FnScope ["before", "roots"] ["before", "roots"] (defScope s_followers) := ⟨rfl, rfl, rfl, by decide +kernel, rfl, by decide +kernel, by decide +kernel⟩
theorem bd_followers : BindsP "followers" "followers" s_followers ["before", "roots"] := fun _ _ _ _ _ _ us hl => match us, hl with | [_, _], _ => rfl
def sp_followers : Sp := fun vs H Q _ => ∃ (b : Nat) (r : Addr) (rs : List Nat), vs = [.str (mkS [b]), .ref r] ∧ H r = some (.lst (intsV rs.reverse)) ∧ Bef b ∧ Q (.str (mkS (Lk.foll b rs))) H
set_option maxHeartbeats 4000000 in
theorem ok_followers (T : Tx K mg) : FnR P w K mg base CX0 1 (He.ga K "followers") (sp_followers ) := by
  refine (T.F_followers).ok sc_followers bd_followers (fun vs H Q E h => ?_) (fun cdv A outer s H vs Q E hr h => ?_)
  · obtain ⟨b, r, rs, rfl, _⟩ := h
    rfl
  · obtain ⟨b, r, rs, rfl, hr', hb, q⟩ := h
    refine ⟨_, (pss_cons (ps_if (pt_cmpR op_eq (pv 0) pe_str (nomark _)) (pss_one (ps_ret pe_str)) pss_nil) (pss_cons (ps_if (pt_cmpR op_eq (pv 0) pe_str (nomark _)) (pss_one (ps_ret pe_str)) pss_nil) (pss_cons (ps_if (pt_cmpR op_eq (pv 0) pe_str (nomark _)) (pss_one (ps_ret pe_str)) pss_nil) (pss_cons (ps_if (pt_not (truK (K := K) rfl (pv 1) (by intro _; rfl))) (pss_one (ps_ret pe_str)) pss_nil) (pss_one (ps_ret (pe_ifExp (pt_cmpR op_eq (pe_ix (ixl (K := K) rfl) (pv 1) (pe_un un_neg pe_int) (fun _ _ => rfl)) pe_int (nomark _)) pe_str pe_str))))))), ?_⟩
    walk_at "go"
    refine r_eqs ?_
    walk_at "go"
    rw [s_open, s_star, s_dot]
    unfold Lk.foll at q
    refine i_dec (fun c => ?_) (fun c => ?_)
    · walk_at "go"
      rw [if_pos (mk1.mp c)] at q
      rw [s_f40]
      exact q
    · rw [if_neg (fun z => c (mk1.mpr z))] at q
      walk_at "go"
      refine r_eqs ?_
      walk_at "go"
      refine i_dec (fun c2 => ?_) (fun c2 => ?_)
      · walk_at "go"
        rw [if_pos (mk1.mp c2)] at q
        rw [s_f42]
        exact q
      · rw [if_neg (fun z => c2 (mk1.mpr z))] at q
        walk_at "go"
        refine r_eqs ?_
        walk_at "go"
        refine i_dec (fun c3 => ?_) (fun c3 => ?_)
        · walk_at "go"
          rw [if_pos (mk1.mp c3)] at q
          rw [s_f46]
          exact q
        · rw [if_neg (fun z => c3 (mk1.mpr z))] at q
          walk_at "go"
          refine a_trul hr' ?_
          cases rs with
          | nil =>
            refine nb_no rfl ?_
            walk_at "go"
            exact q
          | cons y ys =>
            have e : intsV (y :: ys).reverse = intsV ys.reverse ++ [.int (y : Int)] := by
              unfold intsV
              rw [List.reverse_cons, List.map_append]
              rfl
            rw [e] at hr' ⊢
            refine nb_yes (by simp) ?_
            walk_at "go"
            refine r_last hr' ?_
            walk_at "go"
            refine i_dec (fun c4 => ?_) (fun c4 => ?_)
            · walk_at "go"
              dsimp only at q
              rw [if_pos (by omega)] at q
              exact q
            · walk_at "go"
              dsimp only at q
              rw [if_neg (by omega)] at q
              rw [s_close]
              exact q
theorem sc_Forest_read : FnScope ["text", "size", "roots", "removal", "before", "place", "sign"] ["text"] (defScope s_Forest_read) := ⟨rfl, rfl, rfl, by decide +kernel, rfl, by decide +kernel, by decide +kernel⟩
theorem bd_Forest_read : BindsP "read" "Forest.read" s_Forest_read ["text"] := fun _ _ _ _ _ _ us hl => match us, hl with | [_], _ => rfl
def sp_Forest_read (K : PySem.W.Frag) : Sp := fun vs H Q _ => ∃ (n : Nat) (ps : Lk.PL), vs = [.str (textOf n ps)] ∧ Lk.OK n ps ∧ n ≤ 60 ∧ ∀ f H', H f = none → Same H H' → ForestAt K H' f n ps → Q (.ref f) H'
set_option maxHeartbeats 4000000 in
theorem ok_Forest_read (T : Tx K mg) : FnR P w K mg base CX0 8 (He5.wf K (He.ga K "Forest") "staticmethod" "read") (sp_Forest_read K) := by
  refine (T.F_Forest_read).ok sc_Forest_read bd_Forest_read (fun vs H Q E h => ?_) (fun cdv A outer s H vs Q E hr h => ?_)
  · obtain ⟨n, ps, rfl, _⟩ := h
    rfl
  · obtain ⟨n, ps, rfl, o, hn, q⟩ := h
    have tlen := textL_len o.len hn n
    have run := text_run o n
    refine ⟨_, (pss_cons (ps_set (i := 1) sc_Forest_read.nd rfl (by first | exact Or.inl rfl | exact Or.inr rfl) pe_int) (pss_cons (ps_set (i := 2) sc_Forest_read.nd rfl (by first | exact Or.inl rfl | exact Or.inr rfl) (pe_lst pa_nil)) (pss_cons (ps_set (i := 3) sc_Forest_read.nd rfl (by first | exact Or.inl rfl | exact Or.inr rfl) (pe_lst pa_nil)) (pss_cons (ps_set (i := 4) sc_Forest_read.nd rfl (by first | exact Or.inl rfl | exact Or.inr rfl) pe_str) (pss_cons (ps_for PassesOwn.never rfl (pi_enumS (by rfl) T.n_enumerate (pa_cons (pv 0) pa_nil)) (ptupK (K := K) rfl (by rfl) (pgs_cons (pg_name (i := 5) sc_Forest_read.nd rfl (by first | exact Or.inl rfl | exact Or.inr rfl)) (pgs_cons (pg_name (i := 6) sc_Forest_read.nd rfl (by first | exact Or.inl rfl | exact Or.inr rfl)) pgs_nil))) (pss_cons (ps_if (pt_cmpR op_notInS (pv 6) (pe_f (ok_followers (K := K) T) (hr.mono (by decide)) rfl T.g_followers T.k_followers pass0 (pa_cons (pv 4) (pa_cons (pv 2) pa_nil))) (by rfl)) (pss_one ps_never) pss_nil) (pss_cons (ps_if (pt_cmpR op_eq (pv 6) pe_str (nomark _)) (pss_one (ps_expr (bmK (K := K) rfl PySem.F.plainAttrs_list PySem.F.slot_list_append PySem.F.type_list_append mt_append (pv 2) (pa_cons pe_int pa_nil)))) (pss_one (ps_if (pt_cmpR op_eq (pv 6) pe_str (nomark _)) (pss_one (ps_expr (bmK (K := K) rfl PySem.F.plainAttrs_list PySem.F.slot_list_append PySem.F.type_list_append mt_append (pv 3) (pa_cons (bm0K (K := K) rfl PySem.F.plainAttrs_list PySem.F.slot_list_pop PySem.F.type_list_pop mt_pop (pv 2)) pa_nil)))) (pss_cons (ps_aug (i := 1) sc_Forest_read.nd rfl (by first | exact Or.inl rfl | exact Or.inr rfl) pe_int ip_add) (pss_one (ps_if (pt_cmpR op_eq (pv 6) pe_str (nomark _)) (pss_one (ps_asg (pv 1) (pg_sub (pv 2) (pe_un un_neg pe_int) set_list))) pss_nil)))))) (pss_one (ps_set (i := 4) sc_Forest_read.nd rfl (by first | exact Or.inl rfl | exact Or.inr rfl) (pv 6)))))) (pss_cons (ps_if (truK (K := K) rfl (pv 2) (by intro _; rfl)) (pss_one ps_never) pss_nil) (pss_one (ps_ret (ClX.pe_cmeth (pe_glob (v := V.ref (He.ga K "Forest")) rfl T.g_Forest rfl) T.crForest T.cmForest_after (ok_Forest_after (K := K) T) (hr.mono (by decide)) pass0 (pa_cons (pv 1) (pa_cons (pv 3) pa_nil))))))))))), ?_⟩
    walk_at "go"
    refine a_lst (xs := []) (fun rp H1 hrp e1 h1 => ?_) (Nat.zero_le _)
    walk_at "go"
    refine a_lst (xs := []) (fun mp H2 hmp e2 h2 => ?_) (Nat.zero_le _)
    walk_at "go"
    rw [s_dot]
    have nrp : H rp = none := hrp
    have nmp : H mp = none := e1.free hmp
    have nrm : rp ≠ mp := ne_of_none h1 hmp
    have ecps : ∀ i, (textOf n ps).cps[i]? = (textL ps n)[i]? := fun i => by
      rw [← text_tl]
      exact Array.getElem?_toList.symm
    have esz : (textOf n ps).cps.size = (textL ps n).length := by
      rw [← text_tl]
      exact Array.length_toList.symm
    refine a_ens ?_
    refine fo_enumS (fun i σ H' => ∃ (s : Lk.PSt) (v5 v6 : Option V), σ = [some (.str (textOf n ps)), some (.int (s.size : Nat)), some (.ref rp), some (.ref mp), some (.str (mkS [s.bef])), v5, v6] ∧ Same H H' ∧
        Lk.runP ⟨0, [], [], 46⟩ ((textL ps n).take i) = some s ∧ H' rp = some (.lst (intsV s.roots.reverse)) ∧ H' mp = some (.lst (intsV s.rem)) ∧ Bef s.bef ∧ s.roots.length ≤ i ∧ s.rem.length ≤ i)
      ⟨⟨0, [], [], 46⟩, none, none, rfl, e1.trans e2, rfl, e2 _ _ h1, h2, .inr (.inr (.inr rfl)), Nat.le_refl _, Nat.le_refl _⟩ ?_ ?_
    · rintro i c t σ H3 H4 hc ⟨s, v5, v6, rfl, e3, hrun, hr3, hm3, hbf, hl1, hl2⟩ ht e4 ht4
      rw [ecps] at hc
      have hci := (List.getElem?_eq_some_iff.mp hc).1
      obtain ⟨s', hst, hrun'⟩ := run_some run hc hrun
      obtain ⟨hm, hb', hcase⟩ := step_inv hst
      have hr4 := e4 _ _ hr3
      have hm4 := e4 _ _ hm3
      have e34 := e3.trans e4
      have hbf' : Bef s'.bef := by rw [hb']; exact foll_bef hm
      refine a_gtup2 ht4 ?_
      walk_at "go"
      refine ⟨s.bef, rp, s.roots, rfl, hr4, hbf, ?_⟩
      walk_at "go"
      refine a_notInS ?_
      walk_at "go"
      refine n_yes hm ?_
      walk_at "go"
      refine r_eqs ?_
      walk_at "go"
      rw [s_open, s_close, s_star]
      rcases hcase with ⟨rfl, rfl⟩ | ⟨rfl, r, rs, er, rfl⟩ | ⟨rfl, r, rs, er, rfl⟩ | ⟨rfl, rfl⟩
      · refine i_yes rfl ?_
        walk_at "go"
        refine a_app hr4 (by rw [intsV_len, List.length_reverse]; omega) fun H5 hr5 b5 => ?_
        walk_at "go"
        refine ⟨_, _, _, rfl, Same.but e34 nrp b5, hrun', ?_, by rw [b5 mp nrm.symm]; exact hm4, hbf', by dsimp only; rw [List.length_cons]; omega, by dsimp only; omega⟩
        rw [hr5]
        unfold intsV
        rw [List.reverse_cons, List.map_append]
        rfl
      · refine i_no (fun z => by have := mk1.mp z; omega) ?_
        walk_at "go"
        refine r_eqs ?_
        walk_at "go"
        refine i_yes rfl ?_
        have e : intsV s.roots.reverse = intsV rs.reverse ++ [.int (r : Int)] := by
          unfold intsV
          rw [er, List.reverse_cons, List.map_append]
          rfl
        rw [e] at hr4
        rw [er, List.length_cons] at hl1
        walk_at "go"
        refine a_pop hr4 fun H5 hr5 b5 => ?_
        have hm5 : H5 mp = some (.lst (intsV s.rem)) := by rw [b5 mp nrm.symm]; exact hm4
        walk_at "go"
        refine a_app hm5 (by rw [intsV_len]; omega) fun H6 hm6 b6 => ?_
        walk_at "go"
        refine ⟨_, _, _, rfl, Same.but (Same.but e34 nrp b5) nmp b6, hrun', by rw [b6 rp nrm]; exact hr5, ?_, hbf', by dsimp only; omega, by rw [List.length_append]; simp only [List.length_singleton]; omega⟩
        rw [hm6]
        unfold intsV
        rw [List.map_append]
        rfl
      · refine i_no (fun z => by have := mk1.mp z; omega) ?_
        walk_at "go"
        refine r_eqs ?_
        walk_at "go"
        refine i_no (fun z => by have := mk1.mp z; omega) ?_
        walk_at "go"
        refine r_eqs ?_
        walk_at "go"
        refine i_yes rfl ?_
        have e : intsV s.roots.reverse = intsV rs.reverse ++ [.int (r : Int)] := by
          unfold intsV
          rw [er, List.reverse_cons, List.map_append]
          rfl
        rw [e] at hr4
        rw [er, List.length_cons] at hl1
        walk_at "go"
        refine a_setlast hr4 fun H5 hr5 b5 => ?_
        walk_at "go"
        refine ⟨_, _, _, rfl, Same.but e34 nrp b5, hrun', ?_, by rw [b5 mp nrm.symm]; exact hm4, hbf', by dsimp only; rw [List.length_cons]; omega, by dsimp only; omega⟩
        rw [hr5]
        unfold intsV
        rw [List.reverse_cons, List.map_append]
        rfl
      · refine i_no (fun z => by have := mk1.mp z; omega) ?_
        walk_at "go"
        refine r_eqs ?_
        walk_at "go"
        refine i_no (fun z => by have := mk1.mp z; omega) ?_
        walk_at "go"
        refine r_eqs ?_
        walk_at "go"
        refine i_no (fun z => by have := mk1.mp z; omega) ?_
        walk_at "go"
        exact ⟨_, _, _, rfl, e34, hrun', hr4, hm4, hbf', by dsimp only; omega, by dsimp only; omega⟩
    · rintro σ H3 ⟨s, v5, v6, rfl, e3, hrun, hr3, hm3, hbf, hl1, hl2⟩
      rw [esz, List.take_length, run] at hrun
      cases hrun
      rw [text_end o] at hr3 hm3 ⊢
      walk_at "go"
      refine a_trul hr3 ?_
      refine b_no rfl ?_
      walk_at "go"
      refine ⟨rfl, ?_⟩
      walk_at "go"
      obtain ⟨hv, he⟩ := (rems_ord o).run o
      refine ⟨mp, n, remsN n ps n, rfl, hm3, hn, hv, fun f H4 hf e4 F => ?_⟩
      have F : ForestAt K H4 f n ps := by
        have e5 : Lk.runU (whole n) (remsN n ps n) = ps := he
        rw [e5] at F
        exact F
      exact q f H4 (e3.free hf) (e3.trans e4) F
end
end Lw
set_option Elab.async false
set_option linter.all false
set_option maxRecDepth 100000
set_option maxHeartbeats 4000000
namespace Lw
open PySem PySem.Spec PyProof.Rows L2
local macro_rules | `(tactic| walk_at "h") => `(tactic| first | assumption | (refine (by assumption : Same _ _) _ _ ?_; walk_at "h"))
local macro_rules | `(tactic| walk_at "g1") => `(tactic| first
  | with_reducible refine g_seq ?_ | with_reducible refine g_asg ?_ | with_reducible refine g_name ?_ | with_reducible refine g_drop ?_ | with_reducible refine g_ret ?_ | with_reducible refine g_retN ?_
  | with_reducible refine g_next ?_ | with_reducible refine g_brk ?_ | with_reducible refine g_cont ?_ | with_reducible refine g_if ?_ | ((with_reducible show tVar _ _ _ _); refine ⟨_, rfl, ?_⟩) | with_reducible refine g_c ?_
  | with_reducible refine g_op ?_ | with_reducible refine g_un ?_ | with_reducible refine g_ifE ?_ | with_reducible refine g_test ?_ | with_reducible refine g_B ?_ | with_reducible refine g_and ?_ | with_reducible refine g_or ?_ | with_reducible refine g_not ?_
  | with_reducible refine g_andV ?_ | with_reducible refine g_orV ?_ | with_reducible refine g_notV ?_ | with_reducible refine g_nil ?_ | with_reducible refine g_cons ?_ | with_reducible refine g_cb ?_ | with_reducible refine g_f ?_
  | with_reducible refine g_bl ?_ | with_reducible refine g_blV ?_ | with_reducible refine g_part ?_ | with_reducible refine g_nopart ?_ | with_reducible refine g_sl ?_ | with_reducible refine g_intx ?_
  | with_reducible refine r_i0 ?_ | with_reducible refine r_eqi ?_ | with_reducible refine r_nei ?_ | with_reducible refine r_u ?_
  | with_reducible refine r_isN_non ?_ | with_reducible refine r_isN_ref ?_ | with_reducible refine r_isN_int ?_ | with_reducible refine r_notN_non ?_ | with_reducible refine r_notN_ref ?_
  | with_reducible refine h_lc ?_ | with_reducible refine h_for ?_ | with_reducible refine h_rng1 ?_ | with_reducible refine h_rng2 ?_ | with_reducible refine h_ilist ?_ | with_reducible refine h_lst ?_ | with_reducible refine h_tup ?_
  | with_reducible refine h_fld ?_ | with_reducible refine h_m ?_ | with_reducible refine g_sm ?_ | with_reducible refine g_cm ?_ | with_reducible refine h_mk ?_ | with_reducible refine g_chain ?_ | with_reducible refine g_asgsub ?_ | with_reducible refine g_sfld ?_
  | with_reducible refine g_bm ?_ | with_reducible refine g_bm0 ?_
  | ((with_reducible refine' r_tup0 ?gh ?_); (case gh => walk_at "h")) | ((with_reducible refine' r_tup1 ?gh ?_); (case gh => walk_at "h"))
  | ((with_reducible refine' And.intro (ty_lst ?gh) ?_); (case gh => walk_at "h"))
  | with_reducible refine h_lrg ?_ | with_reducible refine h_rg1 ?_ | with_reducible refine h_rg2 ?_ | with_reducible refine g_int2 ?_ | with_reducible refine h_sfld ?_ | with_reducible refine h_augx rfl ?_ | with_reducible refine h_tru ?_ | with_reducible refine g_ipI ?_ | with_reducible refine h_enum ?_ | with_reducible refine h_enumS ?_ | with_reducible refine h_m1 ?_ | with_reducible refine g_isS ?_
  | with_reducible refine i_true ?_ | with_reducible refine i_false ?_ | with_reducible refine i_nt ?_ | with_reducible refine i_nf ?_)
local macro_rules | `(tactic| walk_at "go") => `(tactic| ((repeat' walk_at "g1"); (try dsimp only)))
section
variable {P : Program} {w : World} {K : PySem.W.Frag} {mg : Str → Option Value} {base : Heap}
theorem sc_law_dump : FnScope ["_law_pairs", "_law_size", "_law_rights", "_law_lefts", "_law_outs", "_law_v"] ["_law_pairs"] (defScope s_law_dump) := ⟨rfl, rfl, rfl, by decide +kernel, rfl, by decide +kernel, by decide +kernel⟩
theorem bd_law_dump : BindsP "_law_dump" "_law_dump" s_law_dump ["_law_pairs"] := fun _ _ _ _ _ _ us hl => match us, hl with | [_], _ => rfl
def sp_law_dump : Sp := fun vs H Q _ => ∃ (p : Addr) (ps : Lk.PL) (n : Nat), vs = [.ref p] ∧ PairsAt H p ps ∧ Lk.OK n ps ∧ n ≤ 60 ∧ ∀ H', Same H H' → Q (.str (dumpOf n ps)) H'
set_option maxHeartbeats 4000000 in
theorem ok_law_dump (T : Tx K mg) : FnR P w K mg base CX0 2 (He.ga K "_law_dump") (sp_law_dump ) := by
  refine (T.F_law_dump).ok sc_law_dump bd_law_dump (fun vs H Q E h => ?_) (fun cdv A outer s H vs Q E hr h => ?_)
  · obtain ⟨p, ps, n, rfl, _⟩ := h
    rfl
  · obtain ⟨p, ps, n, rfl, hp, o, hn, q⟩ := h
    have hl := o.len
    refine ⟨_, (pss_cons (ps_set (i := 1) sc_law_dump.nd rfl (by first | exact Or.inl rfl | exact Or.inr rfl) (pe_op op_sub (pe_callB (lenK (K := K) rfl) (by rfl) T.n_len PySem.boot_len (pa_cons (pv 0) pa_nil)) pe_int)) (pss_cons (ps_set (i := 2) sc_law_dump.nd rfl (by first | exact Or.inl rfl | exact Or.inr rfl) (joinK (K := K) rfl pe_str (pe_lc (own := [("_law_v", 5)]) (g := gName 5) rfl sc_law_dump.nd (pi_range1 rfl T.n_range (pa_cons (pe_op op_add (pv 1) pe_int) pa_nil)) (blkOk_by (own := [("_law_v", 5)]) (N := ["_law_pairs", "_law_size", "_law_rights", "_law_lefts", "_law_outs", "_law_v"]) (sc := defScope s_law_dump) (by decide +kernel)) (fun _ _ _ _ _ => pg_name (i := 5) sc_law_dump.nd rfl (Or.inl rfl)) (fun _ _ _ _ _ => pts_nil) (fun _ _ _ _ _ => (pe_callTy strIR (by rfl) T.n_str (by decide +kernel) (pa_cons (pe_f (ok_law_right (K := K) T) (hr.mono (by decide)) rfl T.g_law_right T.k_law_right pass0 (pa_cons (pv 0) (pa_cons (pv 5) pa_nil))) pa_nil)))))) (pss_cons (ps_set (i := 3) sc_law_dump.nd rfl (by first | exact Or.inl rfl | exact Or.inr rfl) (joinK (K := K) rfl pe_str (pe_lc (own := [("_law_v", 5)]) (g := gName 5) rfl sc_law_dump.nd (pi_range2 rfl T.n_range (pa_cons pe_int (pa_cons (pe_op op_add (pv 1) pe_int) pa_nil))) (blkOk_by (own := [("_law_v", 5)]) (N := ["_law_pairs", "_law_size", "_law_rights", "_law_lefts", "_law_outs", "_law_v"]) (sc := defScope s_law_dump) (by decide +kernel)) (fun _ _ _ _ _ => pg_name (i := 5) sc_law_dump.nd rfl (Or.inl rfl)) (fun _ _ _ _ _ => pts_nil) (fun _ _ _ _ _ => (pe_callTy strIR (by rfl) T.n_str (by decide +kernel) (pa_cons (pe_f (ok_law_left (K := K) T) (hr.mono (by decide)) rfl T.g_law_left T.k_law_left pass0 (pa_cons (pv 0) (pa_cons (pv 5) pa_nil))) pa_nil)))))) (pss_cons (ps_set (i := 4) sc_law_dump.nd rfl (by first | exact Or.inl rfl | exact Or.inr rfl) (joinK (K := K) rfl pe_str (pe_lc (own := [("_law_v", 5)]) (g := gName 5) rfl sc_law_dump.nd (pi_range2 rfl T.n_range (pa_cons pe_int (pa_cons (pe_op op_add (pv 1) pe_int) pa_nil))) (blkOk_by (own := [("_law_v", 5)]) (N := ["_law_pairs", "_law_size", "_law_rights", "_law_lefts", "_law_outs", "_law_v"]) (sc := defScope s_law_dump) (by decide +kernel)) (fun _ _ _ _ _ => pg_name (i := 5) sc_law_dump.nd rfl (Or.inl rfl)) (fun _ _ _ _ _ => (pts_one (pt_cmpR op_notN1 (pe_ix (ixl (K := K) rfl) (pv 0) (pv 5) (fun _ _ => rfl)) pe_non (nomark _)))) (fun _ _ _ _ _ => (pe_callTy strIR (by rfl) T.n_str (by decide +kernel) (pa_cons (pv 5) pa_nil)))))) (pss_cons (ps_if (pt_cmpR op_eq (pv 4) pe_str (nomark _)) (pss_one (ps_set (i := 4) sc_law_dump.nd rfl (by first | exact Or.inl rfl | exact Or.inr rfl) pe_str)) pss_nil) (pss_one (ps_ret (pe_op opCat (pe_op opCat (pe_op opCat (pe_op opCat (pv 2) pe_str) (pv 3)) pe_str) (pv 4))))))))), ?_⟩
    walk_at "go"
    refine a_plen hp ?_
    walk_at "go"
    refine a_r1 (n + 1) (by omega) (by omega) ?_
    refine l_rN (fun _ => true) (fun i => .str (numS (Lk.lR ps i))) (by omega) (fun _ => rfl) (fun i H1 _ hi e R k => ?_) (fun i H1 _ hi e hf R k => ?_) (fun D H1 hD e1 hd => ?_)
    · walk_at "go"
      exact k H1 (Same.refl _)
    · have := rs_bound o (x := i) (by omega)
      walk_at "go"
      refine ⟨p, ps, i, n, rfl, hp.mono e, hl, hn, by omega, o.hn, fun H2 e2 => ?_⟩
      exact a_str (by omega) (k H2 e2)
    walk_at "go"
    have hd : H1 D = some (.lst ((rsL n ps).map fun k => V.str (numS k))) := by
      rw [hd]
      unfold giv rsL
      rw [List.filter_eq_self.mpr (fun _ _ => rfl), List.map_map]
      rfl
    refine a_spaced (rsL_lt o hn) (by rw [rsL_len]; omega) hd ?_
    walk_at "go"
    refine a_r2 1 (n + 1) (by omega) (by omega) (by omega) ?_
    refine l_rN (fun _ => true) (fun i => .str (numS (Lk.lL ps i))) (by omega) (fun _ => rfl) (fun i H2 _ hi e R k => ?_) (fun i H2 _ hi e hf R k => ?_) (fun D2 H2 hD2 e2 hd2 => ?_)
    · walk_at "go"
      exact k H2 (Same.refl _)
    · have := ls_bound o (x := i) (by omega) (by omega)
      walk_at "go"
      refine ⟨p, ps, i, rfl, (hp.mono e1).mono e, by omega, by omega, by omega, o.h0, fun H2 e2 => ?_⟩
      exact a_str (by omega) (k H2 e2)
    walk_at "go"
    have hd2 : H2 D2 = some (.lst ((lsL n ps).map fun k => V.str (numS k))) := by
      rw [hd2]
      unfold giv lsL
      rw [List.filter_eq_self.mpr (fun _ _ => rfl), List.map_map]
      rfl
    refine a_spaced (lsL_lt o hn) (by rw [lsL_len]; omega) hd2 ?_
    walk_at "go"
    refine a_r2 1 n (by omega) (by omega) (by omega) ?_
    refine l_rN (outB ps) (fun i => .str (numS i)) (by omega) (fun _ => rfl) (fun i H3 _ hi e R k => ?_) (fun i H3 _ hi e hf R k => ?_) (fun D3 H3 hD3 e3 hd3 => ?_)
    · walk_at "go"
      exact e_notN (((hp.mono e1).mono e2).mono e) (by omega) ⟨_, rfl, k H3 (Same.refl _)⟩
    · walk_at "go"
      exact a_str (by omega) (k H3 (Same.refl _))
    walk_at "go"
    have hd3 : H3 D3 = some (.lst ((outsN n ps).map fun k => V.str (numS k))) := hd3
    have ol := outsN_len n ps
    have b1 := spaced_len (rsL_lt o hn) (by rw [rsL_len]; omega)
    have b2 := spaced_len (lsL_lt o hn) (by rw [lsL_len]; omega)
    have b3 := spaced_len (outsN_lt (ps := ps) hn) (by omega)
    have lb : (Str.ofString " | ").length = 3 := by decide +kernel
    have ln : (Str.ofString "none").length = 4 := by decide +kernel
    refine a_spaced (outsN_lt hn) (by omega) hd3 ?_
    have q := q H3 ((e1.trans e2).trans e3)
    unfold dumpOf outsT at q
    walk_at "go"
    refine r_eqs ?_
    walk_at "go"
    refine i_dec (fun c => ?_) (fun c => ?_)
    · have en : outsN n ps = [] := by
        cases h : outsN n ps with
        | nil => rfl
        | cons y ys => rw [h] at c; exact absurd c spaced_empty
      rw [if_pos en] at q
      walk_at "go"
      refine a_catS (by omega) ?_
      walk_at "go"
      refine a_catS (by rw [Str.length_append]; omega) ?_
      walk_at "go"
      refine a_catS (by rw [Str.length_append, Str.length_append]; omega) ?_
      walk_at "go"
      refine a_catS (by rw [Str.length_append, Str.length_append, Str.length_append]; omega) ?_
      exact q
    · have en : outsN n ps ≠ [] := by
        intro h
        rw [h] at c
        exact c spaced_nil
      rw [if_neg en] at q
      walk_at "go"
      refine a_catS (by omega) ?_
      walk_at "go"
      refine a_catS (by rw [Str.length_append]; omega) ?_
      walk_at "go"
      refine a_catS (by rw [Str.length_append, Str.length_append]; omega) ?_
      walk_at "go"
      refine a_catS (by rw [Str.length_append, Str.length_append, Str.length_append]; omega) ?_
      exact q
end
end Lw
set_option Elab.async false
set_option linter.all false
set_option maxRecDepth 100000
set_option maxHeartbeats 4000000
namespace Lw
open PySem PySem.Spec PyProof.Rows L2
local macro_rules | `(tactic| walk_at "h") => `(tactic| first | assumption | (refine (by assumption : Same _ _) _ _ ?_; walk_at "h"))
local macro_rules | `(tactic| walk_at "g1") => `(tactic| first
  | with_reducible refine g_seq ?_ | with_reducible refine g_asg ?_ | with_reducible refine g_name ?_ | with_reducible refine g_drop ?_ | with_reducible refine g_ret ?_ | with_reducible refine g_retN ?_
  | with_reducible refine g_next ?_ | with_reducible refine g_brk ?_ | with_reducible refine g_cont ?_ | with_reducible refine g_if ?_ | ((with_reducible show tVar _ _ _ _); refine ⟨_, rfl, ?_⟩) | with_reducible refine g_c ?_
  | with_reducible refine g_op ?_ | with_reducible refine g_un ?_ | with_reducible refine g_ifE ?_ | with_reducible refine g_test ?_ | with_reducible refine g_B ?_ | with_reducible refine g_and ?_ | with_reducible refine g_or ?_ | with_reducible refine g_not ?_
  | with_reducible refine g_andV ?_ | with_reducible refine g_orV ?_ | with_reducible refine g_notV ?_ | with_reducible refine g_nil ?_ | with_reducible refine g_cons ?_ | with_reducible refine g_cb ?_ | with_reducible refine g_f ?_
  | with_reducible refine g_bl ?_ | with_reducible refine g_blV ?_ | with_reducible refine g_part ?_ | with_reducible refine g_nopart ?_ | with_reducible refine g_sl ?_ | with_reducible refine g_intx ?_
  | with_reducible refine r_i0 ?_ | with_reducible refine r_eqi ?_ | with_reducible refine r_nei ?_ | with_reducible refine r_u ?_
  | with_reducible refine r_isN_non ?_ | with_reducible refine r_isN_ref ?_ | with_reducible refine r_isN_int ?_ | with_reducible refine r_notN_non ?_ | with_reducible refine r_notN_ref ?_
  | with_reducible refine h_lc ?_ | with_reducible refine h_for ?_ | with_reducible refine h_rng1 ?_ | with_reducible refine h_rng2 ?_ | with_reducible refine h_ilist ?_ | with_reducible refine h_lst ?_ | with_reducible refine h_tup ?_
  | with_reducible refine h_fld ?_ | with_reducible refine h_m ?_ | with_reducible refine g_sm ?_ | with_reducible refine g_cm ?_ | with_reducible refine h_mk ?_ | with_reducible refine g_chain ?_ | with_reducible refine g_asgsub ?_ | with_reducible refine g_sfld ?_
  | with_reducible refine g_bm ?_ | with_reducible refine g_bm0 ?_
  | ((with_reducible refine' r_tup0 ?gh ?_); (case gh => walk_at "h")) | ((with_reducible refine' r_tup1 ?gh ?_); (case gh => walk_at "h"))
  | ((with_reducible refine' And.intro (ty_lst ?gh) ?_); (case gh => walk_at "h"))
  | with_reducible refine h_lrg ?_ | with_reducible refine h_rg1 ?_ | with_reducible refine h_rg2 ?_ | with_reducible refine g_int2 ?_ | with_reducible refine h_sfld ?_ | with_reducible refine h_augx rfl ?_ | with_reducible refine h_tru ?_ | with_reducible refine g_ipI ?_ | with_reducible refine h_enum ?_ | with_reducible refine h_enumS ?_ | with_reducible refine h_m1 ?_ | with_reducible refine g_isS ?_ | with_reducible refine h_m0 ?_ | with_reducible refine h_cval ?_
  | with_reducible refine i_true ?_ | with_reducible refine i_false ?_ | with_reducible refine i_nt ?_ | with_reducible refine i_nf ?_)
local macro_rules | `(tactic| walk_at "go") => `(tactic| ((repeat' walk_at "g1"); (try dsimp only)))
section
variable {P : Program} {w : World} {K : PySem.W.Frag} {mg : Str → Option Value} {base : Heap}
theorem sc_law_forest : FnScope ["_law_pairs", "_law_way", "_law_size", "_law_made", "_law_node_here"] ["_law_pairs", "_law_way"] (defScope s_law_forest) := ⟨rfl, rfl, rfl, by decide +kernel, rfl, by decide +kernel, by decide +kernel⟩
theorem bd_law_forest : BindsP "_law_forest" "_law_forest" s_law_forest ["_law_pairs", "_law_way"] := fun _ _ _ _ _ _ us hl => match us, hl with | [_, _], _ => rfl
def sp_law_forest (K : PySem.W.Frag) : Sp := fun vs H Q _ => ∃ (p : Addr) (ps : Lk.PL) (n way : Nat), vs = [.ref p, .int (way : Int)] ∧ PairsAt H p ps ∧ Lk.OK n ps ∧ n ≤ 60 ∧ ∀ f H', H f = none → Same H H' → ForestAt K H' f n ps → Q (.ref f) H'
set_option maxHeartbeats 4000000 in
theorem ok_law_forest (T : Tx K mg) : FnR P w K mg base CX0 9 (He.ga K "_law_forest") (sp_law_forest K) := by
  refine (T.F_law_forest).ok sc_law_forest bd_law_forest (fun vs H Q E h => ?_) (fun cdv A outer s H vs Q E hr h => ?_)
  · obtain ⟨p, ps, n, way, rfl, _⟩ := h
    rfl
  · obtain ⟨p, ps, n, way, rfl, hp, o, hn, q⟩ := h
    have hl := o.len
    refine ⟨_, (pss_cons (ps_set (i := 2) sc_law_forest.nd rfl (by first | exact Or.inl rfl | exact Or.inr rfl) (pe_op op_sub (pe_callB (lenK (K := K) rfl) (by rfl) T.n_len PySem.boot_len (pa_cons (pv 0) pa_nil)) pe_int)) (pss_cons (ps_if (pt_cmpR op_eq (pv 1) pe_int (nomark _)) (pss_one (ps_ret (pe_smeth (pe_glob (v := V.ref (He.ga K "Forest")) rfl T.g_Forest rfl) T.crForest T.stForest_read (ok_Forest_read (K := K) T) (hr.mono (by decide)) pass0 (pa_cons (pe_f (ok_law_text (K := K) T) (hr.mono (by decide)) rfl T.g_law_text T.k_law_text pass0 (pa_cons (pv 0) pa_nil)) pa_nil)))) pss_nil) (pss_cons (ps_if (pt_cmpR op_eq (pv 1) pe_int (nomark _)) (pss_one (ps_ret (ClX.pe_cmeth (pe_glob (v := V.ref (He.ga K "Forest")) rfl T.g_Forest rfl) T.crForest T.cmForest_after (ok_Forest_after (K := K) T) (hr.mono (by decide)) pass0 (pa_cons (pv 2) (pa_cons (pe_f (ok_law_removal (K := K) T) (hr.mono (by decide)) rfl T.g_law_removal T.k_law_removal pass0 (pa_cons (pv 0) pa_nil)) pa_nil))))) pss_nil) (pss_cons (ps_if (pt_cmpR op_eq (pv 1) pe_int (nomark _)) (pss_one (ps_ret (pe_smeth (pe_glob (v := V.ref (He.ga K "Forest")) rfl T.g_Forest rfl) T.crForest T.stForest_of (ok_Forest_of (K := K) T) (hr.mono (by decide)) pass0 (pa_cons (pe_smeth (pe_glob (v := V.ref (He.ga K "Links")) rfl T.g_Links rfl) T.crLinks T.stLinks_read (ok_Links_read (K := K) T) (hr.mono (by decide)) pass0 (pa_cons (pe_f (ok_law_dump (K := K) T) (hr.mono (by decide)) rfl T.g_law_dump T.k_law_dump pass0 (pa_cons (pv 0) pa_nil)) pa_nil)) pa_nil)))) pss_nil) (pss_cons (ps_set (i := 3) sc_law_forest.nd rfl (by first | exact Or.inl rfl | exact Or.inr rfl) (pe_mk T.mkForest (ok_Forest___init__ (K := K) T) (hr.mono (by decide)) rfl T.g_Forest pass0 (pa_cons (pv 2) pa_nil))) (pss_cons (ps_for PassesOwn.never rfl (pilK (K := K) rfl (pe_f (ok_law_removal (K := K) T) (hr.mono (by decide)) rfl T.g_law_removal T.k_law_removal pass0 (pa_cons (pv 0) pa_nil))) (pg_name (i := 4) sc_law_forest.nd rfl (by first | exact Or.inl rfl | exact Or.inr rfl)) (pss_one (ps_set (i := 3) sc_law_forest.nd rfl (by first | exact Or.inl rfl | exact Or.inr rfl) (pe_m (pv 3) T.cForest T.mForest_unlinked (ok_Forest_unlinked (K := K) T) (hr.mono (by decide)) pass0 (pa_cons (pv 4) pa_nil))))) (pss_one (ps_ret (pv 3))))))))), ?_⟩
    walk_at "go"
    refine a_plen hp ?_
    walk_at "go"
    have en : ((ps.length : Nat) : Int) - 2 = (n : Int) := by omega
    rw [en]
    refine i_dec (fun c => ?_) (fun c => ?_)
    · walk_at "go"
      refine ⟨rfl, ?_⟩
      walk_at "go"
      refine ⟨p, ps, n, rfl, hp, hl, hn, fun H1 e1 => ?_⟩
      walk_at "go"
      exact ⟨n, ps, rfl, o, hn, fun f H2 hf e2 F => q f H2 (e1.free hf) (e1.trans e2) F⟩
    walk_at "go"
    refine i_dec (fun c => ?_) (fun c => ?_)
    · walk_at "go"
      refine ⟨rfl, ?_⟩
      walk_at "go"
      refine ⟨p, ps, n, rfl, hp, o, hn, fun l H1 rs hl1 e1 h1 ord => ?_⟩
      walk_at "go"
      obtain ⟨hv, he⟩ := ord.run o
      refine ⟨l, n, rs, rfl, h1, hn, hv, fun f H2 hf e2 F => ?_⟩
      have e5 : Lk.runU (whole n) rs = ps := he
      rw [e5] at F
      exact q f H2 (e1.free hf) (e1.trans e2) F
    walk_at "go"
    refine i_dec (fun c => ?_) (fun c => ?_)
    · walk_at "go"
      refine ⟨rfl, ?_⟩
      walk_at "go"
      refine ⟨rfl, ?_⟩
      walk_at "go"
      refine ⟨p, ps, n, rfl, hp, o, hn, fun H1 e1 => ?_⟩
      walk_at "go"
      refine ⟨n, ps, rfl, o, hn, fun l H2 hl2 e2 L => ?_⟩
      walk_at "go"
      exact ⟨l, n, ps, rfl, L, o, hn, fun f H3 hf e3 F => q f H3 (e1.free (e2.free hf)) ((e1.trans e2).trans e3) F⟩
    walk_at "go"
    refine a_newF hn fun f0 H1 fdx l0 q0 hf0 e1 F1 => ?_
    walk_at "go"
    refine ⟨p, ps, n, rfl, hp.mono e1, o, hn, fun l H2 rs hl2 e2 h2 ord => ?_⟩
    obtain ⟨hv, he⟩ := ord.run o
    have he : Lk.runU (whole n) rs = ps := he
    refine a_il h2 ?_
    refine fo_list (xs := intsV rs) (fun i σ H' => ∃ (f : Addr) (v4 : Option V), σ = [some (.ref p), some (.int (way : Int)), some (.int (n : Int)), some (.ref f), v4] ∧ Same H2 H' ∧ H f = none ∧ ForestAt K H' f n (Lk.runU (whole n) (rs.take i)))
      ⟨f0, none, rfl, Same.refl _, hf0, ⟨fdx, l0, q0, F1.mono e2⟩⟩ (fun i σ H' _ ⟨_, _, _, e, _⟩ => SqL.of (e _ _ h2)) ?_ ?_
    · rintro i x σ H3 hi ⟨f, v4, rfl, e3, hf, F⟩
      obtain ⟨y, hy, rfl⟩ := intsV_of hi
      obtain ⟨oi, k1, k2, k3, _, er⟩ := hv.get (Lk.OK.whole n) hy
      walk_at "go"
      refine am_f F ?_
      walk_at "go"
      refine ⟨f, n, y, _, rfl, F, oi, hn, k1, k2, k3, fun f' H4 hf' e4 F' => ?_⟩
      refine ⟨f', _, rfl, e3.trans e4, ((e1.trans e2).trans e3).free hf', ?_⟩
      have er' : Lk.runU (whole n) (rs.take (i + 1)) = Lk.unl (Lk.runU (whole n) (rs.take i)) y := er
      rw [er']
      exact F'
    · rintro σ H3 ⟨f, v4, rfl, e3, hf, F⟩
      rw [intsV_len, List.take_length, he] at F
      walk_at "go"
      exact q f H3 hf ((e1.trans e2).trans e3) F
end
end Lw
set_option Elab.async false
set_option linter.all false
set_option maxRecDepth 100000
set_option maxHeartbeats 4000000
namespace Lw
open PySem PySem.Spec PyProof.Rows L2
local macro_rules | `(tactic| walk_at "h") => `(tactic| first | assumption | (refine (by assumption : Same _ _) _ _ ?_; walk_at "h"))
local macro_rules | `(tactic| walk_at "g1") => `(tactic| first
  | with_reducible refine g_seq ?_ | with_reducible refine g_asg ?_ | with_reducible refine g_name ?_ | with_reducible refine g_drop ?_ | with_reducible refine g_ret ?_ | with_reducible refine g_retN ?_
  | with_reducible refine g_next ?_ | with_reducible refine g_brk ?_ | with_reducible refine g_cont ?_ | with_reducible refine g_if ?_ | ((with_reducible show tVar _ _ _ _); refine ⟨_, rfl, ?_⟩) | with_reducible refine g_c ?_
  | with_reducible refine g_op ?_ | with_reducible refine g_un ?_ | with_reducible refine g_ifE ?_ | with_reducible refine g_test ?_ | with_reducible refine g_B ?_ | with_reducible refine g_and ?_ | with_reducible refine g_or ?_ | with_reducible refine g_not ?_
  | with_reducible refine g_andV ?_ | with_reducible refine g_orV ?_ | with_reducible refine g_notV ?_ | with_reducible refine g_nil ?_ | with_reducible refine g_cons ?_ | with_reducible refine g_cb ?_ | with_reducible refine g_f ?_
  | with_reducible refine g_bl ?_ | with_reducible refine g_blV ?_ | with_reducible refine g_part ?_ | with_reducible refine g_nopart ?_ | with_reducible refine g_sl ?_ | with_reducible refine g_intx ?_
  | with_reducible refine r_i0 ?_ | with_reducible refine r_eqi ?_ | with_reducible refine r_nei ?_ | with_reducible refine r_u ?_
  | with_reducible refine r_isN_non ?_ | with_reducible refine r_isN_ref ?_ | with_reducible refine r_isN_int ?_ | with_reducible refine r_notN_non ?_ | with_reducible refine r_notN_ref ?_
  | with_reducible refine h_lc ?_ | with_reducible refine h_for ?_ | with_reducible refine h_rng1 ?_ | with_reducible refine h_rng2 ?_ | with_reducible refine h_ilist ?_ | with_reducible refine h_lst ?_ | with_reducible refine h_tup ?_
  | with_reducible refine h_fld ?_ | with_reducible refine h_m ?_ | with_reducible refine g_sm ?_ | with_reducible refine g_cm ?_ | with_reducible refine h_mk ?_ | with_reducible refine g_chain ?_ | with_reducible refine g_asgsub ?_ | with_reducible refine g_sfld ?_
  | with_reducible refine g_bm ?_ | with_reducible refine g_bm0 ?_
  | ((with_reducible refine' r_tup0 ?gh ?_); (case gh => walk_at "h")) | ((with_reducible refine' r_tup1 ?gh ?_); (case gh => walk_at "h"))
  | ((with_reducible refine' And.intro (ty_lst ?gh) ?_); (case gh => walk_at "h"))
  | with_reducible refine h_lrg ?_ | with_reducible refine h_rg1 ?_ | with_reducible refine h_rg2 ?_ | with_reducible refine g_int2 ?_ | with_reducible refine h_sfld ?_ | with_reducible refine h_augx rfl ?_ | with_reducible refine h_tru ?_ | with_reducible refine g_ipI ?_ | with_reducible refine h_enum ?_ | with_reducible refine h_enumS ?_ | with_reducible refine h_m1 ?_ | with_reducible refine g_isS ?_ | with_reducible refine h_m0 ?_ | with_reducible refine h_mS ?_ | with_reducible refine h_dget ?_ | with_reducible refine h_dget2 ?_ | with_reducible refine h_dput ?_ | with_reducible refine h_keys ?_ | with_reducible refine h_lvals ?_ | with_reducible refine h_nodeX ?_ | with_reducible refine h_cval ?_
  | with_reducible refine i_true ?_ | with_reducible refine i_false ?_ | with_reducible refine i_nt ?_ | with_reducible refine i_nf ?_)
local macro_rules | `(tactic| walk_at "go") => `(tactic| ((repeat' walk_at "g1"); (try dsimp only)))
section
variable {P : Program} {w : World} {K : PySem.W.Frag} {mg : Str → Option Value} {base : Heap}
theorem tops_eq {n : Nat} {ps : Lk.PL} (o : Lk.OK n ps) : (List.range' 0 ps.length).filter (topB ps) = topsN n ps := by
  rw [o.len]
  exact filt_ends (topB_none o.h0) (topB_none o.hn)
theorem topsN_len (n : Nat) (ps : Lk.PL) : (topsN n ps).length ≤ n := by
  have := List.length_filter_le (topB ps) (List.range' 1 n)
  rw [List.length_range'] at this
  exact this
theorem sc_law_looks : FnScope ["_law_forest_here", "_law_pairs", "_law_size", "_law_turn", "_law_row", "_law_node_here", "_law_told", "_law_v"] ["_law_forest_here", "_law_pairs"] (defScope s_law_looks) := ⟨rfl, rfl, rfl, by decide +kernel, rfl, by decide +kernel, by decide +kernel⟩
theorem bd_law_looks : BindsP "_law_looks" "_law_looks" s_law_looks ["_law_forest_here", "_law_pairs"] := fun _ _ _ _ _ _ us hl => match us, hl with | [_, _], _ => rfl
def sp_law_looks (K : PySem.W.Frag) : Sp := fun vs H Q _ => ∃ (f p : Addr) (ps : Lk.PL) (n : Nat), vs = [.ref f, .ref p] ∧ ForestAt K H f n ps ∧ PairsAt H p ps ∧ Lk.OK n ps ∧ n ≤ 60 ∧ ∀ H', Same H H' → Q (.bl true) H'
set_option maxHeartbeats 4000000 in
theorem ok_law_looks (T : Tx K mg) (B : Bx P K mg) : FnR P w K mg base CX0 9 (He.ga K "_law_looks") (sp_law_looks K) := by
  refine (T.F_law_looks).ok sc_law_looks bd_law_looks (fun vs H Q E h => ?_) (fun cdv A outer s H vs Q E hr h => ?_)
  · obtain ⟨f, p, ps, n, rfl, _⟩ := h
    rfl
  · obtain ⟨f, p, ps, n, rfl, hF, hp, o, hn, q⟩ := h
    have hl := o.len
    refine ⟨_, (pss_cons (ps_set (i := 2) sc_law_looks.nd rfl (by first | exact Or.inl rfl | exact Or.inr rfl) (pe_op op_sub (pe_callB (lenK (K := K) rfl) (by rfl) T.n_len PySem.boot_len (pa_cons (pv 1) pa_nil)) pe_int)) (pss_cons (ps_if (PW.pt (pw_or (pt_not (pt_val (pe_callB (isiK (K := K) rfl) (by rfl) T.n_isinstance (by decide +kernel) (pa_cons (pv 0) (pa_cons (pe_glob (v := V.ref (He.ga K "Forest")) rfl T.g_Forest rfl) pa_nil))))) (pw_or1 (pt_cmpR op_ne (pe_callTy (call_strOwn (T.mForest___str__).at_ (T.mForest___str__).fn (ok_Forest___str__ (K := K) T) (hr.mono (by decide)) pass0) (by rfl) T.n_str (by decide +kernel) (pa_cons (pv 0) pa_nil)) (pe_f (ok_law_text (K := K) T) (hr.mono (by decide)) rfl T.g_law_text T.k_law_text pass0 (pa_cons (pv 1) pa_nil)) (nomark _))))) (pss_one (ps_ret pe_bl)) pss_nil) (pss_cons (ps_if (pt_cmpR op_ne (pe_callB (call_lenOwn (T.mForest___len__).at_ (T.mForest___len__).fn (ok_Forest___len__ (K := K) T) (hr.mono (by decide)) pass0) (by rfl) T.n_len PySem.boot_len (pa_cons (pv 0) pa_nil)) (pe_callB (lenK (K := K) rfl) (by rfl) T.n_len PySem.boot_len (pa_cons (pe_lc (own := [("_law_v", 7)]) (g := gName 7) rfl sc_law_looks.nd (pilK (K := K) rfl (pv 1)) (blkOk_by (own := [("_law_v", 7)]) (N := ["_law_forest_here", "_law_pairs", "_law_size", "_law_turn", "_law_row", "_law_node_here", "_law_told", "_law_v"]) (sc := defScope s_law_looks) (by decide +kernel)) (fun _ _ _ _ _ => pg_name (i := 7) sc_law_looks.nd rfl (Or.inl rfl)) (fun _ _ _ _ _ => (pts_one (pt_cmpR op_notN1 (pv 7) pe_non (nomark _)))) (fun _ _ _ _ _ => (pv 7))) pa_nil)) (nomark _)) (pss_one (ps_ret pe_bl)) pss_nil) (pss_cons (ps_for PassesOwn.never rfl (pi_range1 rfl T.n_range (pa_cons pe_int pa_nil)) (pg_name (i := 3) sc_law_looks.nd rfl (by first | exact Or.inl rfl | exact Or.inr rfl)) (pss_cons (ps_set (i := 4) sc_law_looks.nd rfl (by first | exact Or.inl rfl | exact Or.inr rfl) (pe_m0r (pv 0) T.cForest T.mForest_tops (ok_Forest_tops (K := K) T) (hr.mono (by decide)) pass0)) (pss_cons (ps_if (pt_not (pt_val (pe_f (ok_law_rows (K := K) T) (hr.mono (by decide)) rfl T.g_law_rows T.k_law_rows pass0 (pa_cons (pv 4) (pa_cons (pe_f (ok_law_tops (K := K) T) (hr.mono (by decide)) rfl T.g_law_tops T.k_law_tops pass0 (pa_cons (pv 1) pa_nil)) pa_nil))))) (pss_one (ps_ret pe_bl)) pss_nil) (pss_cons (ps_expr (bmK (K := K) rfl PySem.F.plainAttrs_list PySem.F.slot_list_append PySem.F.type_list_append mt_append (pv 4) (pa_cons pe_int pa_nil))) (pss_one (ps_asg (pe_un un_neg pe_int) (pg_sub (pv 4) pe_int set_list))))))) (pss_cons (ps_for PassesOwn.never rfl (pi_range2 rfl T.n_range (pa_cons (pe_un un_neg pe_int) (pa_cons (pe_op op_add (pv 2) pe_int) pa_nil))) (pg_name (i := 5) sc_law_looks.nd rfl (by first | exact Or.inl rfl | exact Or.inr rfl)) (pss_one (ps_if (pt_not (pt_val (pe_f (ok_law_node (K := K) T B) (hr.mono (by decide)) rfl T.g_law_node T.k_law_node pass0 (pa_cons (pv 0) (pa_cons (pv 1) (pa_cons (pv 5) pa_nil)))))) (pss_one (ps_ret pe_bl)) pss_nil))) (pss_cons (ps_set (i := 6) sc_law_looks.nd rfl (by first | exact Or.inl rfl | exact Or.inr rfl) (pe_m0r (pv 0) T.cForest T.mForest_ways_back (ok_Forest_ways_back (K := K) T) (hr.mono (by decide)) pass0)) (pss_one (ps_ret (pe_and (pe_f (ok_law_is_integer (K := K) T) (hr.mono (by decide)) rfl T.g_law_is_integer T.k_law_is_integer pass0 (pa_cons (pv 6) pa_nil)) (pe_one (pe_cmpR op_eq (pv 6) (pe_f (ok_law_ways (K := K) T) (hr.mono (by decide)) rfl T.g_law_ways T.k_law_ways pass0 (pa_cons (pv 1) pa_nil)) (nomark _)))))))))))), ?_⟩
    walk_at "go"
    refine a_plen hp ?_
    walk_at "go"
    have en : ((ps.length : Nat) : Int) - 2 = (n : Int) := by omega
    rw [en]
    refine a_isF T B hF ?_
    walk_at "go"
    have hF0 := hF
    obtain ⟨dx, l, pq, hf⟩ := hF
    refine ⟨f, _, _, rfl, hf.obj, f, n, ps, rfl, hF0, o, hn, fun H1 e1 => ⟨_, rfl, ?_⟩⟩
    walk_at "go"
    refine ⟨p, ps, n, rfl, hp.mono e1, hl, hn, fun H2 e2 => ?_⟩
    refine r_nes ?_
    walk_at "go"
    refine n_yes rfl ?_
    walk_at "go"
    have e12 := e1.trans e2
    have hf2 := hf.mono e12
    refine ⟨f, _, _, rfl, hf2.obj, f, n, ps, rfl, hF0.mono e12, hn, fun H3 e3 => ⟨_, rfl, by have := outsN_len n ps; omega, ?_⟩⟩
    have e13 := e12.trans e3
    walk_at "go"
    obtain ⟨xs, hx1, hx2, hx3⟩ := (hp.mono e13).ex
    refine a_il hx1 ?_
    refine l_list (outB ps) (fun k => xs.getD k .non) (SqL.of hx1) (by omega) (fun _ => rfl) (fun k x H3 hk e3 R c => ?_) (fun k x H3 hk e3 hf R c => ?_) (fun D H4 hD e4 hd => ?_)
    · walk_at "go"
      exact out_test hx1 hx2 hx3 hk ⟨_, rfl, c H3 (Same.refl _)⟩
    · have ev : xs.getD k .non = x := by rw [List.getD_eq_getElem?_getD, hk]; rfl
      rw [ev] at c
      walk_at "go"
      exact c H3 (Same.refl _)
    walk_at "go"
    refine a_len hd ?_
    rw [cnt_outs o hx2]
    walk_at "go"
    refine n_yes rfl ?_
    walk_at "go"
    have e14 := e13.trans e4
    refine a_r1 2 rfl (by omega) ?_
    refine fo_rN (fun i σ H' => ∃ (v3 v4 : Option V), σ = [some (.ref f), some (.ref p), some (.int (n : Int)), v3, v4, none, none, none] ∧ Same H H') ⟨none, none, rfl, e14⟩ ?_ ?_
    · rintro i σ H5 hi ⟨v3, v4, rfl, e5⟩
      walk_at "go"
      refine am_f (hF0.mono e5) ?_
      walk_at "go"
      refine ⟨f, n, ps, rfl, hF0.mono e5, o, hn, fun r H6 hr6 e6 h6 => ?_⟩
      walk_at "go"
      have e56 := e5.trans e6
      refine ⟨p, ps, rfl, hp.mono e56, OKBd o, by omega, fun t H7 ht e7 h7 => ?_⟩
      rw [tops_eq o] at h7
      have h6' : H7 r = some (.lst (intsV (topsN n ps))) := e7 _ _ h6
      refine ⟨r, t, topsN n ps, rfl, h6', h7, by have := topsN_len n ps; omega, ?_⟩
      walk_at "go"
      refine a_app h6' (by have := topsN_len n ps; rw [intsV_len]; omega) fun H8 h8 b8 => ?_
      walk_at "go"
      refine a_negrow h8 (by simp) fun H9 h9 b9 => ?_
      have nr : H r = none := e5.free hr6
      exact ⟨_, _, rfl, Same.but (Same.but (e56.trans e7) nr b8) nr b9⟩
    rintro σ H5 ⟨v3, v4, rfl, e5⟩
    walk_at "go"
    refine a_r2i (n + 6) (by omega) (by omega) (by omega) ?_
    refine fo_rI (fun i σ H' => ∃ (v5 : Option V), σ = [some (.ref f), some (.ref p), some (.int (n : Int)), v3, v4, v5, none, none] ∧ Same H H') ⟨none, rfl, e5⟩ ?_ ?_
    · rintro i σ H6 hi ⟨v5, rfl, e6⟩
      walk_at "go"
      refine ⟨f, p, ps, n, _, rfl, hF0.mono e6, hp.mono e6, o, hn, fun H7 e7 => ?_⟩
      walk_at "go"
      exact ⟨_, rfl, e6.trans e7⟩
    rintro σ H6 ⟨v5, rfl, e6⟩
    walk_at "go"
    refine am_f (hF0.mono e6) ?_
    walk_at "go"
    refine ⟨f, n, ps, rfl, hF0.mono e6, o, hn, fun H7 e7 => ?_⟩
    walk_at "go"
    refine ⟨_, rfl, ?_⟩
    walk_at "go"
    have e67 := e6.trans e7
    refine ⟨p, ps, n, rfl, hp.mono e67, o, hn, fun H8 e8 => ?_⟩
    walk_at "go"
    rw [decide_eq_true rfl]
    exact q H8 (e67.trans e8)
theorem sc_law_summed : FnScope ["_law_forest_here", "_law_pairs", "_law_tops_here", "_law_total", "_law_node_here", "_law_told"] ["_law_forest_here", "_law_pairs"] (defScope s_law_summed) := ⟨rfl, rfl, rfl, by decide +kernel, rfl, by decide +kernel, by decide +kernel⟩
theorem bd_law_summed : BindsP "_law_summed" "_law_summed" s_law_summed ["_law_forest_here", "_law_pairs"] := fun _ _ _ _ _ _ us hl => match us, hl with | [_, _], _ => rfl
def sp_law_summed (K : PySem.W.Frag) : Sp := fun vs H Q _ => ∃ (f p : Addr) (ps : Lk.PL) (n : Nat), vs = [.ref f, .ref p] ∧ ForestAt K H f n ps ∧ PairsAt H p ps ∧ Lk.OK n ps ∧ n ≤ 60 ∧ ∀ H', Same H H' → Q (.bl true) H'
set_option maxHeartbeats 4000000 in
theorem ok_law_summed (T : Tx K mg) : FnR P w K mg base CX0 8 (He.ga K "_law_summed") (sp_law_summed K) := by
  refine (T.F_law_summed).ok sc_law_summed bd_law_summed (fun vs H Q E h => ?_) (fun cdv A outer s H vs Q E hr h => ?_)
  · obtain ⟨f, p, ps, n, rfl, _⟩ := h
    rfl
  · obtain ⟨f, p, ps, n, rfl, hF, hp, o, hn, q⟩ := h
    have hl := o.len
    refine ⟨_, (pss_cons (ps_set (i := 2) sc_law_summed.nd rfl (by first | exact Or.inl rfl | exact Or.inr rfl) (pe_f (ok_law_tops (K := K) T) (hr.mono (by decide)) rfl T.g_law_tops T.k_law_tops pass0 (pa_cons (pv 1) pa_nil))) (pss_cons (ps_if (pt_cmpR (eqDK (K := K) rfl hr.units) (pv 2) (pe_lst pa_nil) (nomark _)) (pss_one (ps_ret (pe_cmpR op_eq (pe_m0r (pv 0) T.cForest T.mForest_ways_back (ok_Forest_ways_back (K := K) T) (hr.mono (by decide)) pass0) pe_int (nomark _)))) pss_nil) (pss_cons (ps_set (i := 3) sc_law_summed.nd rfl (by first | exact Or.inl rfl | exact Or.inr rfl) pe_int) (pss_cons (ps_for PassesOwn.never rfl (pilK (K := K) rfl (pv 2)) (pg_name (i := 4) sc_law_summed.nd rfl (by first | exact Or.inl rfl | exact Or.inr rfl)) (pss_cons (ps_set (i := 5) sc_law_summed.nd rfl (by first | exact Or.inl rfl | exact Or.inr rfl) (pe_m0r (pe_m (pv 0) T.cForest T.mForest_relinked (ok_Forest_relinked (K := K) T) (hr.mono (by decide)) pass0 (pa_cons (pv 4) pa_nil)) T.cForest T.mForest_ways_back (ok_Forest_ways_back (K := K) T) (hr.mono (by decide)) pass0)) (pss_cons (ps_if (PW.pt (pw_or (pt_not (pt_val (pe_f (ok_law_is_integer (K := K) T) (hr.mono (by decide)) rfl T.g_law_is_integer T.k_law_is_integer pass0 (pa_cons (pv 5) pa_nil)))) (pw_or1 (pt_cmpR op_ne (pv 5) (pe_f (ok_law_ways (K := K) T) (hr.mono (by decide)) rfl T.g_law_ways T.k_law_ways pass0 (pa_cons (pe_f (ok_law_relinked (K := K) T) (hr.mono (by decide)) rfl T.g_law_relinked T.k_law_relinked pass0 (pa_cons (pv 1) (pa_cons (pv 4) pa_nil))) pa_nil)) (nomark _))))) (pss_one (ps_ret pe_bl)) pss_nil) (pss_one (ps_set (i := 3) sc_law_summed.nd rfl (by first | exact Or.inl rfl | exact Or.inr rfl) (pe_op op_add (pv 3) (pv 5))))))) (pss_one (ps_ret (pe_cmpR op_eq (pv 3) (pe_m0r (pv 0) T.cForest T.mForest_ways_back (ok_Forest_ways_back (K := K) T) (hr.mono (by decide)) pass0) (nomark _)))))))), ?_⟩
    walk_at "go"
    refine ⟨p, ps, rfl, hp, OKBd o, by omega, fun t H1 ht e1 h1 => ?_⟩
    rw [tops_eq o] at h1
    walk_at "go"
    refine a_lst (xs := []) (fun z H2 hz e2 h2 => ?_) (Nat.zero_le _)
    walk_at "go"
    have e12 := e1.trans e2
    have ht2 := e2 _ _ h1
    refine a_eqNil ht2 h2 ?_
    walk_at "go"
    refine i_dec (fun c => ?_) (fun c => ?_)
    · walk_at "go"
      refine am_f (hF.mono e12) ?_
      walk_at "go"
      refine ⟨f, n, ps, rfl, hF.mono e12, o, hn, fun H3 e3 => ?_⟩
      rw [hookZ_qN, q_empty o ((tops_empty o).mp c)]
      walk_at "go"
      exact q H3 (e12.trans e3)
    walk_at "go"
    refine a_il ht2 ?_
    refine fo_list (xs := intsV (topsN n ps)) (fun i σ H' => ∃ (v4 v5 : Option V), σ = [some (.ref f), some (.ref p), some (.ref t), some (.int ((((topsN n ps).take i).map fun t => qN n (Lk.rel ps t)).sum : Nat)), v4, v5] ∧ Same H H' ∧ H' t = some (.lst (intsV (topsN n ps))))
      ⟨none, none, rfl, e12, ht2⟩ (fun i σ H' _ ⟨_, _, _, _, e⟩ => SqL.of e) ?_ ?_
    · rintro i x σ H3 hi ⟨v4, v5, rfl, e3, h3⟩
      obtain ⟨y, hy, rfl⟩ := intsV_of hi
      have top := (topsN_mem o).mp (List.mem_of_getElem? hy)
      have yo := o.pos (isTop_out top)
      walk_at "go"
      refine am_f (hF.mono e3) ?_
      walk_at "go"
      refine ⟨f, n, y, ps, rfl, hF.mono e3, o, hn, top, fun f' H4 hf' e4 F' => ?_⟩
      refine am_f F' ?_
      walk_at "go"
      refine ⟨f', n, _, rfl, F', o.rel top, hn, fun H5 e5 => ?_⟩
      walk_at "go"
      refine ⟨_, rfl, ?_⟩
      walk_at "go"
      have e45 := (e3.trans e4).trans e5
      refine ⟨p, ps, y, rfl, hp.mono e45, by omega, fun p' H6 hp' e6 hp6 => ?_⟩
      refine ⟨p', _, n, rfl, hp6, o.rel top, hn, fun H7 e7 => ?_⟩
      walk_at "go"
      refine n_yes rfl ?_
      walk_at "go"
      refine ⟨some (.int (y : Int)), some (.int (hookZ n (Lk.rel ps y))), ?_, ((e45.trans e6).trans e7), e7 _ _ (e6 _ _ (e5 _ _ (e4 _ _ h3)))⟩
      · rw [take_succ hy, List.map_append, List.sum_append, hookZ_qN]
        simp only [List.map_cons, List.map_nil, List.sum_cons, List.sum_nil, Nat.add_zero, Int.natCast_add]
        rfl
    rintro σ H3 ⟨v4, v5, rfl, e3, h3⟩
    rw [intsV_len, List.take_length]
    walk_at "go"
    refine am_f (hF.mono e3) ?_
    walk_at "go"
    refine ⟨f, n, ps, rfl, hF.mono e3, o, hn, fun H4 e4 => ?_⟩
    walk_at "go"
    rw [hookZ_qN, ← hook_sum o (fun z => c ((tops_empty o).mpr z)), decide_eq_true rfl]
    exact q H4 (e3.trans e4)
theorem sc_law_led_down : FnScope ["_law_forest_here", "_law_pairs", "_law_node_here", "_law_chain_here", "_law_now", "_law_there", "_law_k", "_law_above"] ["_law_forest_here", "_law_pairs", "_law_node_here"] (defScope s_law_led_down) := ⟨rfl, rfl, rfl, by decide +kernel, rfl, by decide +kernel, by decide +kernel⟩
theorem bd_law_led_down : BindsP "_law_led_down" "_law_led_down" s_law_led_down ["_law_forest_here", "_law_pairs", "_law_node_here"] := fun _ _ _ _ _ _ us hl => match us, hl with | [_, _, _], _ => rfl
def sp_law_led_down (K : PySem.W.Frag) : Sp := fun vs H Q _ => ∃ (f p : Addr) (ps : Lk.PL) (n x : Nat), vs = [.ref f, .ref p, .int (x : Int)] ∧ ForestAt K H f n ps ∧ PairsAt H p ps ∧ Lk.OK n ps ∧ n ≤ 60 ∧ Lk.at_ ps x ≠ none ∧ ∀ H', Same H H' → Q (.bl true) H'
set_option maxHeartbeats 4000000 in
theorem ok_law_led_down (T : Tx K mg) (B : Bx P K mg) : FnR P w K mg base CX0 10 (He.ga K "_law_led_down") (sp_law_led_down K) := by
  refine (T.F_law_led_down).ok sc_law_led_down bd_law_led_down (fun vs H Q E h => ?_) (fun cdv A outer s H vs Q E hr h => ?_)
  · obtain ⟨f, p, ps, n, x, rfl, _⟩ := h
    rfl
  · obtain ⟨f, p, ps, n, x, rfl, hF, hp, o, hn, hx, q⟩ := h
    have hl := o.len
    have hxp := o.pos hx
    refine ⟨_, (pss_cons (ps_set (i := 3) sc_law_led_down.nd rfl (by first | exact Or.inl rfl | exact Or.inr rfl) (pe_f (ok_law_chain (K := K) T) (hr.mono (by decide)) rfl T.g_law_chain T.k_law_chain pass0 (pa_cons (pv 1) (pa_cons (pv 2) pa_nil)))) (pss_cons (ps_set (i := 4) sc_law_led_down.nd rfl (by first | exact Or.inl rfl | exact Or.inr rfl) (pv 0)) (pss_cons (ps_set (i := 5) sc_law_led_down.nd rfl (by first | exact Or.inl rfl | exact Or.inr rfl) (pv 1)) (pss_cons (ps_for PassesOwn.never rfl (pi_range1 rfl T.n_range (pa_cons (pe_callB (lenK (K := K) rfl) (by rfl) T.n_len PySem.boot_len (pa_cons (pv 3) pa_nil)) pa_nil)) (pg_name (i := 6) sc_law_led_down.nd rfl (by first | exact Or.inl rfl | exact Or.inr rfl)) (pss_cons (ps_set (i := 7) sc_law_led_down.nd rfl (by first | exact Or.inl rfl | exact Or.inr rfl) (pe_ix (ixl (K := K) rfl) (pv 3) (pe_op op_sub (pe_op op_sub (pe_callB (lenK (K := K) rfl) (by rfl) T.n_len PySem.boot_len (pa_cons (pv 3) pa_nil)) pe_int) (pv 6)) (fun _ _ => rfl))) (pss_cons (ps_if (PW.pt (pw_or (pt_not (pt_val (pe_f (ok_law_rows (K := K) T) (hr.mono (by decide)) rfl T.g_law_rows T.k_law_rows pass0 (pa_cons (pe_m0r (pv 4) T.cForest T.mForest_tops (ok_Forest_tops (K := K) T) (hr.mono (by decide)) pass0) (pa_cons (pe_f (ok_law_tops (K := K) T) (hr.mono (by decide)) rfl T.g_law_tops T.k_law_tops pass0 (pa_cons (pv 5) pa_nil)) pa_nil))))) (pw_or1 (pt_cmpR (notInK (K := K) rfl) (pv 7) (pe_m0r (pv 4) T.cForest T.mForest_tops (ok_Forest_tops (K := K) T) (hr.mono (by decide)) pass0) (by rfl))))) (pss_one (ps_ret pe_bl)) pss_nil) (pss_cons (ps_set (i := 4) sc_law_led_down.nd rfl (by first | exact Or.inl rfl | exact Or.inr rfl) (pe_m (pv 4) T.cForest T.mForest_relinked (ok_Forest_relinked (K := K) T) (hr.mono (by decide)) pass0 (pa_cons (pv 7) pa_nil))) (pss_one (ps_set (i := 5) sc_law_led_down.nd rfl (by first | exact Or.inl rfl | exact Or.inr rfl) (pe_f (ok_law_relinked (K := K) T) (hr.mono (by decide)) rfl T.g_law_relinked T.k_law_relinked pass0 (pa_cons (pv 5) (pa_cons (pv 7) pa_nil))))))))) (pss_cons (ps_if (PW.pt (pw_or (pt_cmpR op_ne (pe_m (pv 4) T.cForest T.mForest_parent (ok_Forest_parent (K := K) T B) (hr.mono (by decide)) passL (pa_cons (pv 2) pa_nil)) pe_int (nomark _)) (pw_or1 (pt_cmpR (neDK (K := K) rfl hr.units) (pe_m (pv 4) T.cForest T.mForest_chain (ok_Forest_chain (K := K) T B) (hr.mono (by decide)) passL (pa_cons (pv 2) pa_nil)) (pe_lst pa_nil) (nomark _))))) (pss_one (ps_ret pe_bl)) pss_nil) (pss_one (ps_ret (pe_f (ok_law_looks (K := K) T B) (hr.mono (by decide)) rfl T.g_law_looks T.k_law_looks pass0 (pa_cons (pe_m (pv 4) T.cForest T.mForest_relinked (ok_Forest_relinked (K := K) T) (hr.mono (by decide)) pass0 (pa_cons (pv 2) pa_nil)) (pa_cons (pe_f (ok_law_relinked (K := K) T) (hr.mono (by decide)) rfl T.g_law_relinked T.k_law_relinked pass0 (pa_cons (pv 5) (pa_cons (pv 2) pa_nil))) pa_nil)))))))))), ?_⟩
    walk_at "go"
    refine ⟨p, ps, x, n, rfl, hp, o, hn, hx, fun c H1 hc e1 h1 => ?_⟩
    have lc := o.chain_len hx
    walk_at "go"
    refine a_len h1 ?_
    rw [intsV_len]
    walk_at "go"
    refine a_r1 (Lk.chain ps x).length rfl (by omega) ?_
    refine fo_rN (fun i σ H' => ∃ (f p : Addr) (cur : Lk.PL) (v0 v1 : V) (v6 v7 : Option V), σ = [some v0, some v1, some (.int (x : Int)), some (.ref c), some (.ref f), some (.ref p), v6, v7] ∧ Same H H' ∧ H' c = some (.lst (intsV (Lk.chain ps x))) ∧
        ForestAt K H' f n cur ∧ PairsAt H' p cur ∧ Lk.OK n cur ∧ Lk.at_ cur x ≠ none ∧ Lk.chain cur x = (Lk.chain ps x).take ((Lk.chain ps x).length - i))
      ⟨f, p, ps, _, _, none, none, rfl, e1, h1, hF.mono e1, hp.mono e1, o, hx, by rw [Nat.sub_zero, List.take_length]⟩ ?_ ?_
    · rintro i σ H2 hi ⟨f, p, cur, v0, v1, v6, v7, rfl, e2, h2, hF2, hp2, o2, hx2, hc2⟩
      have hl2 := o2.len
      obtain ⟨t, ht⟩ : ∃ t, (Lk.chain ps x)[(Lk.chain ps x).length - 1 - i]? = some t := ⟨_, List.getElem?_eq_getElem (by omega)⟩
      have es : Lk.chain cur x = (Lk.chain ps x).take ((Lk.chain ps x).length - (i + 1)) ++ [t] := by
        rw [hc2, show (Lk.chain ps x).length - i = ((Lk.chain ps x).length - 1 - i) + 1 by omega, take_succ ht, show (Lk.chain ps x).length - (i + 1) = (Lk.chain ps x).length - 1 - i by omega]
      obtain ⟨top, hrc, hro⟩ := o2.chain_last _ x t hx2 es
      have tp := o2.pos (Lw.isTop_out top)
      walk_at "go"
      refine a_len h2 ?_
      rw [intsV_len]
      walk_at "go"
      have ei : (((Lk.chain ps x).length : Nat) : Int) - 1 - ((0 + i : Nat) : Int) = (((Lk.chain ps x).length - 1 - i : Nat) : Int) := by omega
      rw [ei]
      refine r_ixl h2 (intsV_get ht) ?_
      walk_at "go"
      refine am_f hF2 ?_
      walk_at "go"
      refine ⟨f, n, cur, rfl, hF2, o2, hn, fun r H3 hr3 e3 h3 => ?_⟩
      walk_at "go"
      refine ⟨p, cur, rfl, hp2.mono e3, OKBd o2, by omega, fun tt H4 htt e4 h4 => ?_⟩
      rw [tops_eq o2] at h4
      refine ⟨r, tt, topsN n cur, rfl, e4 _ _ h3, h4, by have := topsN_len n cur; omega, ?_⟩
      walk_at "go"
      have e34 := e3.trans e4
      refine am_f (hF2.mono e34) ?_
      walk_at "go"
      refine ⟨f, n, cur, rfl, hF2.mono e34, o2, hn, fun r5 H5 hr5 e5 h5 => ?_⟩
      walk_at "go"
      have h5' : H5 r5 = some (.lst (intsV (topsN n cur))) := h5
      refine a_nin h5' ?_
      walk_at "go"
      refine n_yes ((topsN_mem o2).mpr top) ?_
      walk_at "go"
      have e35 := e34.trans e5
      refine am_f (hF2.mono e35) ?_
      walk_at "go"
      refine ⟨f, n, t, cur, rfl, hF2.mono e35, o2, hn, top, fun f' H6 hf' e6 F' => ?_⟩
      walk_at "go"
      refine ⟨p, cur, t, rfl, (hp2.mono e35).mono e6, by omega, fun p' H7 hp' e7 hp7 => ?_⟩
      refine ⟨f', p', Lk.rel cur t, v0, v1, _, _, rfl, ((e2.trans e35).trans e6).trans e7, e7 _ _ (e6 _ _ (e35 _ _ h2)), F'.mono e7, hp7, o2.rel top, hro, hrc⟩
    rintro σ H2 ⟨f, p, cur, v0, v1, v6, v7, rfl, e2, h2, hF2, hp2, o2, hx2, hc2⟩
    rw [Nat.sub_self, List.take_zero] at hc2
    have hl2 := o2.len
    have hz : isOutZ n cur ((x : Nat) : Int) = true := by
      obtain ⟨a, b, e⟩ := Lk.ne_none hx2
      rw [isOutZ_in hxp.1 hxp.2, outB_t e]
    have hp0 : Lk.par cur x = 0 := by
      have e := o2.chain_eq hx2
      by_cases h : Lk.par cur x = 0
      · exact h
      · rw [if_neg h, hc2] at e; cases e
    have top := (o2.par_top hx2).mp hp0
    walk_at "go"
    refine am_f hF2 ?_
    walk_at "go"
    refine ⟨f, n, cur, (x : Int), rfl, hF2, o2, hn, fun _ => ?_, (fun h => by rw [hz] at h; cases h)⟩
    rw [Int.toNat_natCast, hp0]
    walk_at "go"
    refine n_yes rfl ?_
    walk_at "go"
    refine am_f hF2 ?_
    walk_at "go"
    refine ⟨f, n, cur, (x : Int), rfl, hF2, o2, hn, fun _ r H3 hr3 e3 h3 => ?_, (fun h => by rw [hz] at h; cases h)⟩
    rw [Int.toNat_natCast, hc2] at h3
    walk_at "go"
    refine a_lst (xs := []) (fun z H4 hz e4 h4 => ?_) (Nat.zero_le _)
    walk_at "go"
    refine a_neNil (ns := []) (e4 _ _ h3) h4 ?_
    walk_at "go"
    refine n_yes rfl ?_
    walk_at "go"
    have e34 := e3.trans e4
    refine am_f (hF2.mono e34) ?_
    walk_at "go"
    refine ⟨f, n, x, cur, rfl, hF2.mono e34, o2, hn, top, fun f' H5 hf' e5 F' => ?_⟩
    walk_at "go"
    refine ⟨p, cur, x, rfl, (hp2.mono e34).mono e5, by omega, fun p' H6 hp' e6 hp6 => ?_⟩
    exact ⟨f', p', Lk.rel cur x, n, rfl, F'.mono e6, hp6, o2.rel top, hn, fun H7 e7 => q H7 ((((e2.trans e34).trans e5).trans e6).trans e7)⟩
end
end Lw
set_option Elab.async false
set_option linter.all false
set_option maxRecDepth 100000
set_option maxHeartbeats 4000000
namespace Lw
open PySem PySem.Spec PyProof.Rows L2
local macro_rules | `(tactic| walk_at "h") => `(tactic| first | assumption | (refine (by assumption : Same _ _) _ _ ?_; walk_at "h"))
local macro_rules | `(tactic| walk_at "g1") => `(tactic| first
  | with_reducible refine g_seq ?_ | with_reducible refine g_asg ?_ | with_reducible refine g_name ?_ | with_reducible refine g_drop ?_ | with_reducible refine g_ret ?_ | with_reducible refine g_retN ?_
  | with_reducible refine g_next ?_ | with_reducible refine g_brk ?_ | with_reducible refine g_cont ?_ | with_reducible refine g_if ?_ | ((with_reducible show tVar _ _ _ _); refine ⟨_, rfl, ?_⟩) | with_reducible refine g_c ?_
  | with_reducible refine g_op ?_ | with_reducible refine g_un ?_ | with_reducible refine g_ifE ?_ | with_reducible refine g_test ?_ | with_reducible refine g_B ?_ | with_reducible refine g_and ?_ | with_reducible refine g_or ?_ | with_reducible refine g_not ?_
  | with_reducible refine g_andV ?_ | with_reducible refine g_orV ?_ | with_reducible refine g_notV ?_ | with_reducible refine g_nil ?_ | with_reducible refine g_cons ?_ | with_reducible refine g_cb ?_ | with_reducible refine g_f ?_
  | with_reducible refine g_bl ?_ | with_reducible refine g_blV ?_ | with_reducible refine g_part ?_ | with_reducible refine g_nopart ?_ | with_reducible refine g_sl ?_ | with_reducible refine g_intx ?_
  | with_reducible refine r_i0 ?_ | with_reducible refine r_eqi ?_ | with_reducible refine r_nei ?_ | with_reducible refine r_u ?_
  | with_reducible refine r_isN_non ?_ | with_reducible refine r_isN_ref ?_ | with_reducible refine r_isN_int ?_ | with_reducible refine r_notN_non ?_ | with_reducible refine r_notN_ref ?_
  | with_reducible refine h_lc ?_ | with_reducible refine h_for ?_ | with_reducible refine h_rng1 ?_ | with_reducible refine h_rng2 ?_ | with_reducible refine h_ilist ?_ | with_reducible refine h_lst ?_ | with_reducible refine h_tup ?_
  | with_reducible refine h_fld ?_ | with_reducible refine h_m ?_ | with_reducible refine g_sm ?_ | with_reducible refine g_cm ?_ | with_reducible refine g_mk ?_ | with_reducible refine g_chain ?_ | with_reducible refine g_asgsub ?_ | with_reducible refine g_sfld ?_
  | with_reducible refine g_bm ?_ | with_reducible refine g_bm0 ?_
  | ((with_reducible refine' r_tup0 ?gh ?_); (case gh => walk_at "h")) | ((with_reducible refine' r_tup1 ?gh ?_); (case gh => walk_at "h"))
  | with_reducible refine i_true ?_ | with_reducible refine i_false ?_)
local macro_rules | `(tactic| walk_at "go") => `(tactic| repeat' walk_at "g1")
section
variable {P : Program} {w : World} {K : PySem.W.Frag} {mg : Str → Option Value} {base : Heap}
theorem sc_law_unlinked : FnScope ["_law_pairs", "_law_node_here", "_law_low", "_law_high", "_law_new", "_law_v"] ["_law_pairs", "_law_node_here"] (defScope s_law_unlinked) := ⟨rfl, rfl, rfl, by decide +kernel, rfl, by decide +kernel, by decide +kernel⟩
theorem bd_law_unlinked : BindsP "_law_unlinked" "_law_unlinked" s_law_unlinked ["_law_pairs", "_law_node_here"] := fun _ _ _ _ _ _ us hl => match us, hl with | [_, _], _ => rfl
def sp_law_unlinked : Sp := fun vs H Q _ => ∃ (p : Addr) (ps : Lk.PL) (x n : Nat), vs = [.ref p, .int (x : Int)] ∧ PairsAt H p ps ∧ ps.length = n + 2 ∧ n ≤ 60 ∧ Lk.at_ ps 0 = none ∧ Lk.at_ ps (n + 1) = none ∧ 1 ≤ x ∧ x ≤ n ∧
  ∀ p' H', H p' = none → Same H H' → PairsAt H' p' (Lk.unl ps x) → Q (.ref p') H'
set_option maxHeartbeats 4000000 in
theorem ok_law_unlinked (T : Tx K mg) : FnR P w K mg base CX0 1 (He.ga K "_law_unlinked") (sp_law_unlinked ) := by
  refine (T.F_law_unlinked).ok sc_law_unlinked bd_law_unlinked (fun vs H Q E h => ?_) (fun cdv A outer s H vs Q E hr h => ?_)
  · obtain ⟨p, ps, x, n, rfl, _⟩ := h
    rfl
  · obtain ⟨p, ps, x, n, rfl, hp, hl, hn, h0, h1, hx1, hx2, q⟩ := h
    refine ⟨_, (pss_cons (ps_set (i := 2) sc_law_unlinked.nd rfl (by first | exact Or.inl rfl | exact Or.inr rfl) (pe_callB (maxK (K := K) rfl rfl) (by rfl) T.n_max (by decide +kernel) (pa_cons (pe_lc (own := [("_law_v", 5)]) (g := gName 5) rfl sc_law_unlinked.nd (pi_range1 rfl T.n_range (pa_cons (pv 1) pa_nil)) (blkOk_by (own := [("_law_v", 5)]) (N := ["_law_pairs", "_law_node_here", "_law_low", "_law_high", "_law_new", "_law_v"]) (sc := defScope s_law_unlinked) (by decide +kernel)) (fun _ _ _ _ _ => pg_name (i := 5) sc_law_unlinked.nd rfl (Or.inl rfl)) (fun _ _ _ _ _ => (pts_one (pt_cmpR op_isN1 (pe_ix (ixl (K := K) rfl) (pv 0) (pv 5) (fun _ _ => rfl)) pe_non (nomark _)))) (fun _ _ _ _ _ => (pv 5))) pa_nil))) (pss_cons (ps_set (i := 3) sc_law_unlinked.nd rfl (by first | exact Or.inl rfl | exact Or.inr rfl) (pe_callB (minK (K := K) rfl rfl) (by rfl) T.n_min (by decide +kernel) (pa_cons (pe_lc (own := [("_law_v", 5)]) (g := gName 5) rfl sc_law_unlinked.nd (pi_range2 rfl T.n_range (pa_cons (pe_op op_add (pv 1) pe_int) (pa_cons (pe_callB (lenK (K := K) rfl) (by rfl) T.n_len PySem.boot_len (pa_cons (pv 0) pa_nil)) pa_nil))) (blkOk_by (own := [("_law_v", 5)]) (N := ["_law_pairs", "_law_node_here", "_law_low", "_law_high", "_law_new", "_law_v"]) (sc := defScope s_law_unlinked) (by decide +kernel)) (fun _ _ _ _ _ => pg_name (i := 5) sc_law_unlinked.nd rfl (Or.inl rfl)) (fun _ _ _ _ _ => (pts_one (pt_cmpR op_isN1 (pe_ix (ixl (K := K) rfl) (pv 0) (pv 5) (fun _ _ => rfl)) pe_non (nomark _)))) (fun _ _ _ _ _ => (pv 5))) pa_nil))) (pss_cons (ps_set (i := 4) sc_law_unlinked.nd rfl (by first | exact Or.inl rfl | exact Or.inr rfl) (pe_callTy (listK (K := K) rfl) (by rfl) T.n_list (by decide +kernel) (pa_cons (pv 0) pa_nil))) (pss_cons (ps_asg (pe_tup (pa_cons (pv 2) (pa_cons (pv 3) pa_nil))) (pg_sub (pv 4) (pv 1) set_list)) (pss_one (ps_ret (pv 4))))))), ?_⟩
    walk_at "go"
    refine a_r1 x rfl (by omega) ?_
    refine l_rN (inB ps) (fun i => .int (i : Int)) (by omega) (fun _ => rfl) (fun i H1 _ hi e R k => ?_) (fun i H1 _ hi e hf R k => ?_) (fun D H1 hD e1 hd => ?_)
    · walk_at "go"
      refine r_pairs (hp.mono e) (by omega) (fun e => ?_) (fun a b t e ht => ?_)
      · walk_at "go"
        have k := k H1 (Same.refl _)
        rw [inB, decide_eq_true e] at k
        exact k
      · walk_at "go"
        have k := k H1 (Same.refl _)
        rw [inB, decide_eq_false (by rw [e]; simp)] at k
        exact k
    · walk_at "go"
      exact k H1 (Same.refl _)
    walk_at "go"
    refine r_maxlow h0 hx1 hd ?_
    walk_at "go"
    refine a_plen (hp.mono e1) ?_
    walk_at "go"
    refine a_r2 (x + 1) (n + 1 - x) (by omega) (by omega) (by omega) ?_
    refine l_rN (inB ps) (fun i => .int (i : Int)) (by omega) (fun _ => rfl) (fun i H1 _ hi e R k => ?_) (fun i H1 _ hi e hf R k => ?_) (fun D2 H2 hD2 e2 hd2 => ?_)
    · walk_at "go"
      refine r_pairs ((hp.mono e1).mono e) (by omega) (fun e => ?_) (fun a b t e ht => ?_)
      · walk_at "go"
        have k := k H1 (Same.refl _)
        rw [inB, decide_eq_true e] at k
        exact k
      · walk_at "go"
        have k := k H1 (Same.refl _)
        rw [inB, decide_eq_false (by rw [e]; simp)] at k
        exact k
    · walk_at "go"
      exact k H1 (Same.refl _)
    walk_at "go"
    refine r_minhigh (n := n + 1 - x) (by rw [show x + (n + 1 - x) = n + 1 by omega]; exact h1) (by omega) hd2 ?_
    walk_at "go"
    have hp2 := (hp.mono e1).mono e2
    refine a_plist hp2 fun l H3 hl3 e3 hp3 => ?_
    walk_at "go"
    refine a_tup fun t H4 ht e4 ht4 => ?_
    walk_at "go"
    refine r_pset (hp3.mono e4) (by omega) (.inr ⟨_, _, t, rfl, rfl, ht4⟩) fun xs hp5 => ?_
    walk_at "go"
    have el : H l = none := e1.free (e2.free hl3)
    exact q l _ el (Same.mut (((e1.trans e2).trans e3).trans e4) el) hp5
end
end Lw
set_option Elab.async false
set_option linter.all false
set_option maxRecDepth 100000
set_option maxHeartbeats 4000000
namespace Lw
open PySem PySem.Spec PyProof.Rows L2
local macro_rules | `(tactic| walk_at "h") => `(tactic| first | assumption | (refine (by assumption : Same _ _) _ _ ?_; walk_at "h"))
local macro_rules | `(tactic| walk_at "g1") => `(tactic| first
  | with_reducible refine g_seq ?_ | with_reducible refine g_asg ?_ | with_reducible refine g_name ?_ | with_reducible refine g_drop ?_ | with_reducible refine g_ret ?_ | with_reducible refine g_retN ?_
  | with_reducible refine g_next ?_ | with_reducible refine g_brk ?_ | with_reducible refine g_cont ?_ | with_reducible refine g_if ?_ | ((with_reducible show tVar _ _ _ _); refine ⟨_, rfl, ?_⟩) | with_reducible refine g_c ?_
  | with_reducible refine g_op ?_ | with_reducible refine g_un ?_ | with_reducible refine g_ifE ?_ | with_reducible refine g_test ?_ | with_reducible refine g_B ?_ | with_reducible refine g_and ?_ | with_reducible refine g_or ?_ | with_reducible refine g_not ?_
  | with_reducible refine g_andV ?_ | with_reducible refine g_orV ?_ | with_reducible refine g_notV ?_ | with_reducible refine g_nil ?_ | with_reducible refine g_cons ?_ | with_reducible refine g_cb ?_ | with_reducible refine g_f ?_
  | with_reducible refine g_bl ?_ | with_reducible refine g_blV ?_ | with_reducible refine g_part ?_ | with_reducible refine g_nopart ?_ | with_reducible refine g_sl ?_ | with_reducible refine g_intx ?_
  | with_reducible refine r_i0 ?_ | with_reducible refine r_eqi ?_ | with_reducible refine r_nei ?_ | with_reducible refine r_u ?_
  | with_reducible refine r_isN_non ?_ | with_reducible refine r_isN_ref ?_ | with_reducible refine r_isN_int ?_ | with_reducible refine r_notN_non ?_ | with_reducible refine r_notN_ref ?_
  | with_reducible refine h_lc ?_ | with_reducible refine h_for ?_ | with_reducible refine h_rng1 ?_ | with_reducible refine h_rng2 ?_ | with_reducible refine h_ilist ?_ | with_reducible refine h_lst ?_ | with_reducible refine h_tup ?_
  | with_reducible refine h_fld ?_ | with_reducible refine h_m ?_ | with_reducible refine g_sm ?_ | with_reducible refine g_cm ?_ | with_reducible refine g_mk ?_ | with_reducible refine g_chain ?_ | with_reducible refine g_asgsub ?_ | with_reducible refine g_sfld ?_
  | with_reducible refine g_bm ?_ | with_reducible refine g_bm0 ?_
  | ((with_reducible refine' r_tup0 ?gh ?_); (case gh => walk_at "h")) | ((with_reducible refine' r_tup1 ?gh ?_); (case gh => walk_at "h"))
  | ((with_reducible refine' And.intro (ty_lst ?gh) ?_); (case gh => walk_at "h"))
  | with_reducible refine i_true ?_ | with_reducible refine i_false ?_)
local macro_rules | `(tactic| walk_at "go") => `(tactic| ((repeat' walk_at "g1"); (try dsimp only)))
section
variable {P : Program} {w : World} {K : PySem.W.Frag} {mg : Str → Option Value} {base : Heap}
theorem sc_law_draw : FnScope ["_law_purse_here", "_law_size", "_law_shape", "_law_many", "_law_start", "_law_pairs", "_law_turn", "_law_ins", "_law_at", "_law_v"] ["_law_purse_here", "_law_size"] (defScope s_law_draw) := ⟨rfl, rfl, rfl, by decide +kernel, rfl, by decide +kernel, by decide +kernel⟩
theorem bd_law_draw : BindsP "_law_draw" "_law_draw" s_law_draw ["_law_purse_here", "_law_size"] := fun _ _ _ _ _ _ us hl => match us, hl with | [_, _], _ => rfl
def sp_law_draw : Sp := fun vs H Q _ => ∃ (p : Addr) (n : Nat), vs = [.ref p, .int (n : Int)] ∧ PurseAt H p ∧ n ≤ 60 ∧ ∀ l H' ps, Lk.OK n ps → H l = none → Sb p H H' → PurseAt H' p → PairsAt H' l ps → Q (.ref l) H'
set_option maxHeartbeats 4000000 in
theorem ok_law_draw (T : Tx K mg) : FnR P w K mg base CX0 2 (He.ga K "_law_draw") (sp_law_draw ) := by
  refine (T.F_law_draw).ok sc_law_draw bd_law_draw (fun vs H Q E h => ?_) (fun cdv A outer s H vs Q E hr h => ?_)
  · obtain ⟨p, n, rfl, _⟩ := h
    rfl
  · obtain ⟨p, n, rfl, hp, hn, q⟩ := h
    refine ⟨_, (pss_cons (ps_set (i := 2) sc_law_draw.nd rfl (by first | exact Or.inl rfl | exact Or.inr rfl) (pe_f (ok_law_take T) (hr.mono (by decide)) rfl T.g_law_take T.k_law_take pass0 (pa_cons (pv 0) (pa_cons pe_int pa_nil)))) (pss_cons (ps_set (i := 3) sc_law_draw.nd rfl (by first | exact Or.inl rfl | exact Or.inr rfl) (pe_f (ok_law_take T) (hr.mono (by decide)) rfl T.g_law_take T.k_law_take pass0 (pa_cons (pv 0) (pa_cons (pe_op op_add (pv 1) pe_int) pa_nil)))) (pss_cons (ps_set (i := 4) sc_law_draw.nd rfl (by first | exact Or.inl rfl | exact Or.inr rfl) (pe_f (ok_law_take T) (hr.mono (by decide)) rfl T.g_law_take T.k_law_take pass0 (pa_cons (pv 0) (pa_cons (pe_op op_add (pv 1) pe_int) pa_nil)))) (pss_cons (ps_set (i := 5) sc_law_draw.nd rfl (by first | exact Or.inl rfl | exact Or.inr rfl) (pe_op op_rep (pe_lst (pa_cons pe_non pa_nil)) (pe_op op_add (pv 1) pe_int))) (pss_cons (ps_for PassesOwn.never rfl (pi_range1 rfl T.n_range (pa_cons (pv 3) pa_nil)) (pg_name (i := 6) sc_law_draw.nd rfl (by first | exact Or.inl rfl | exact Or.inr rfl)) (pss_cons (ps_setLc (own := [("_law_v", 9)]) (g := gName 9) (i := 7) rfl sc_law_draw.nd rfl rfl (sw_true rfl rfl rfl (by decide +kernel)) (pi_range2 rfl T.n_range (pa_cons pe_int (pa_cons (pe_op op_add (pv 1) pe_int) pa_nil))) (blkOk_by (own := [("_law_v", 9)]) (N := ["_law_purse_here", "_law_size", "_law_shape", "_law_many", "_law_start", "_law_pairs", "_law_turn", "_law_ins", "_law_at", "_law_v"]) (sc := defScope s_law_draw) (by decide +kernel)) (fun _ _ _ _ _ => pg_name (i := 9) sc_law_draw.nd rfl (Or.inl rfl)) (fun _ _ _ _ _ => (pts_one (pt_cmpR op_isN1 (pe_ix (ixl (K := K) rfl) (pv 5) (pv 9) (fun _ _ => rfl)) pe_non (nomark _)))) (fun _ _ _ _ _ => (pv 9))) (pss_cons (ps_set (i := 8) sc_law_draw.nd rfl (by first | exact Or.inl rfl | exact Or.inr rfl) (pv 4)) (Evl.pss_cut (ps_if (pt_cmpR op_lt (pv 2) pe_int (nomark _)) (pss_one (ps_set (i := 8) sc_law_draw.nd rfl (by first | exact Or.inl rfl | exact Or.inr rfl) (pe_f (ok_law_take T) (hr.mono (by decide)) rfl T.g_law_take T.k_law_take pass0 (pa_cons (pv 0) (pa_cons (pe_callB (lenK (K := K) rfl) (by rfl) T.n_len PySem.boot_len (pa_cons (pv 7) pa_nil)) pa_nil))))) pss_nil) (Evl.pss_cut (ps_if (pt_cmpR op_eq (pv 2) pe_int (nomark _)) (pss_one (ps_set (i := 8) sc_law_draw.nd rfl (by first | exact Or.inl rfl | exact Or.inr rfl) (pe_callB (max2R rfl) (by rfl) T.n_max (by decide +kernel) (pa_cons pe_int (pa_cons (pe_op op_sub (pv 4) (pv 6)) pa_nil))))) pss_nil) (Evl.pss_cut (ps_if (pt_cmpR op_eq (pv 2) pe_int (nomark _)) (pss_one (ps_set (i := 8) sc_law_draw.nd rfl (by first | exact Or.inl rfl | exact Or.inr rfl) (pe_callB (max2R rfl) (by rfl) T.n_max (by decide +kernel) (pa_cons pe_int (pa_cons (pe_op op_sub (pv 4) (pe_op op_fdiv (pe_op op_add (pv 6) pe_int) pe_int)) pa_nil))))) pss_nil) (pss_one (ps_set (i := 5) sc_law_draw.nd rfl (by first | exact Or.inl rfl | exact Or.inr rfl) (pe_f (ok_law_unlinked T) (hr.mono (by decide)) rfl T.g_law_unlinked T.k_law_unlinked pass0 (pa_cons (pv 5) (pa_cons (pe_ix (ixl (K := K) rfl) (pv 7) (pe_callB (min2R rfl) (by rfl) T.n_min (by decide +kernel) (pa_cons (pv 8) (pa_cons (pe_op op_sub (pe_callB (lenK (K := K) rfl) (by rfl) T.n_len PySem.boot_len (pa_cons (pv 7) pa_nil)) pe_int) pa_nil))) (fun _ _ => rfl)) pa_nil))))))))))) (pss_one (ps_ret (pv 5)))))))), ?_⟩
    walk_at "go"
    refine ⟨p, 6, rfl, hp, by decide, by decide, fun sh H1 hsh b1 hp1 => ?_⟩
    walk_at "go"
    refine ⟨p, n + 1, rfl, hp1, by omega, by omega, fun mn H2 hmn b2 hp2 => ?_⟩
    walk_at "go"
    refine ⟨p, n + 1, rfl, hp2, by omega, by omega, fun st H3 hst b3 hp3 => ?_⟩
    walk_at "go"
    refine a_lst fun l0 H4 hl0 e4 h4 => ?_
    walk_at "go"
    refine r_rep (n := n + 2) h4 (by omega) fun l1 H5 hl1 e5 h5 => ?_
    have hp5 : PurseAt H5 p := (hp3.mono e4).mono e5
    have sb5 : Sb p H H5 := ((((b1.trans b2).trans b3).sb).trans (Same.sb e4)).trans (Same.sb e5)
    have nl1 : H l1 = none := by
      have ne : l1 ≠ p := (hp3.mono e4).ne hl1
      have z : H3 l1 = none := Same.free e4 hl1
      rw [b3 l1 ne, b2 l1 ne, b1 l1 ne] at z
      exact z
    walk_at "go"
    refine a_r1 mn rfl (by omega) ?_
    refine fo_rN (fun i σ H' => ∃ (l : Addr) (ps : Lk.PL) (v6 v7 v8 : Option V), σ = [some (.ref p), some (.int (n : Int)), some (.int (sh : Int)), some (.int (mn : Int)), some (.int (st : Int)), some (.ref l), v6, v7, v8, none] ∧
      Lk.OK n ps ∧ Lk.cntIn n ps + i = n ∧ H l = none ∧ Sb p H H' ∧ PurseAt H' p ∧ PairsAt H' l ps)
      ⟨l1, _, none, none, none, rfl, Lk.OK.whole n, by rw [Lk.cntIn_whole]; omega, nl1, sb5, hp5, PairsAt.none h5⟩ ?_ ?_
    · rintro i σ H6 hi ⟨l, ps, v6, v7, v8, rfl, o, hc, hl, sb6, hp6, hps⟩
      have hlen := o.len
      have nel : l ≠ p := hp.ne hl
      walk_at "go"
      refine a_r2 1 n rfl (by omega) (by omega) ?_
      refine l_rN (inB ps) (fun i => .int (i : Int)) (by omega) (fun _ => rfl) (fun i H1 _ hi e R k => ?_) (fun i H1 _ hi e hf R k => ?_) (fun D H7 hD e7 hd => ?_)
      · walk_at "go"
        exact e_isN (hps.mono e) (by omega) ⟨_, rfl, k H1 (Same.refl _)⟩
      · walk_at "go"
        exact k H1 (Same.refl _)
      have hdl : ((List.range' 1 n).filter (inB ps)).length = Lk.cntIn n ps := rfl
      have hd7 : H7 D = some (.lst (intsV ((List.range' 1 n).filter (inB ps)))) := hd
      have hp7 := hp6.mono e7
      have hps7 := hps.mono e7
      have neD : D ≠ p := hp6.ne hD
      generalize hins : (List.range' 1 n).filter (inB ps) = ins at hd7 hdl
      have sb7 : Sb p H H7 := sb6.trans (Same.sb e7)
      walk_at "go"
      refine ⟨fun σ H' => ∃ (j : Nat), σ = [some (.ref p), some (.int (n : Int)), some (.int (sh : Int)), some (.int (mn : Int)), some (.int (st : Int)), some (.ref l), some (.int (i : Int)), some (.ref D), some (.int (j : Int)), none] ∧
        Sb p H H' ∧ PurseAt H' p ∧ PairsAt H' l ps ∧ H' D = some (.lst (intsV ins)), ?_, ?_⟩
      · walk_at "go"
        refine i_dec (fun c => ?_) (fun c => ?_)
        · walk_at "go"
          refine a_len hd7 ?_
          rw [intsV_len]
          walk_at "go"
          refine ⟨p, ins.length, rfl, hp7, by omega, by omega, fun d H8 hd8 b8 hp8 => ?_⟩
          exact ⟨d, by simp, sb7.trans b8.sb, hp8, hps7.bt hp7 nel b8, by rw [b8 D neD]; exact hd7⟩
        · walk_at "go"
          exact ⟨st, by simp, sb7, hp7, hps7, hd7⟩
      rintro σ H8 ⟨j, rfl, sb8, hp8, hps8, hd8⟩
      refine ⟨fun σ H' => H' = H8 ∧ ∃ (j : Nat), σ = [some (.ref p), some (.int (n : Int)), some (.int (sh : Int)), some (.int (mn : Int)), some (.int (st : Int)), some (.ref l), some (.int (i : Int)), some (.ref D), some (.int (j : Int)), none], ?_, ?_⟩
      · walk_at "go"
        refine i_dec (fun c => ?_) (fun c => ?_)
        · walk_at "go"
          refine a_max2 ?_
          have e : ∃ j' : Nat, (if (st : Int) - ((0 + i : Nat) : Int) > 0 then (st : Int) - ((0 + i : Nat) : Int) else 0) = (j' : Int) := ⟨st - i, by split <;> omega⟩
          obtain ⟨j', e⟩ := e
          first | rw [e] | (simp only [Nat.zero_add] at e; rw [e])
          exact ⟨rfl, j', rfl⟩
        · walk_at "go"
          exact ⟨rfl, j, rfl⟩
      rintro σ H9 ⟨rfl, j2, rfl⟩
      refine ⟨fun σ H' => H' = H9 ∧ ∃ (j : Nat), σ = [some (.ref p), some (.int (n : Int)), some (.int (sh : Int)), some (.int (mn : Int)), some (.int (st : Int)), some (.ref l), some (.int (i : Int)), some (.ref D), some (.int (j : Int)), none], ?_, ?_⟩
      · walk_at "go"
        refine i_dec (fun c => ?_) (fun c => ?_)
        · walk_at "go"
          refine r_i ⟨by decide, by decide⟩ ?_
          walk_at "go"
          refine a_max2 ?_
          have e : ∃ j' : Nat, (if (st : Int) - ((i : Int) + 1) / 2 > 0 then (st : Int) - ((i : Int) + 1) / 2 else 0) = (j' : Int) := ⟨((if (st : Int) - ((i : Int) + 1) / 2 > 0 then (st : Int) - ((i : Int) + 1) / 2 else 0)).toNat, by split <;> omega⟩
          obtain ⟨j', e⟩ := e
          rw [e]
          exact ⟨rfl, j', rfl⟩
        · walk_at "go"
          exact ⟨rfl, j2, rfl⟩
      rintro σ H10 ⟨rfl, j3, rfl⟩
      walk_at "go"
      refine a_len hd8 ?_
      rw [intsV_len]
      walk_at "go"
      refine a_min2 ?_
      have e : ∃ k : Nat, (if (ins.length : Int) - 1 < (j3 : Int) then (ins.length : Int) - 1 else (j3 : Int)) = (k : Int) ∧ k < ins.length := ⟨min j3 (ins.length - 1), by split <;> omega, by omega⟩
      obtain ⟨k, e, hk⟩ := e
      rw [e]
      obtain ⟨x, hx⟩ : ∃ x, ins[k]? = some x := ⟨ins[k], List.getElem?_eq_getElem hk⟩
      have hxm : x ∈ (List.range' 1 n).filter (inB ps) := by rw [hins]; exact List.mem_of_getElem? hx
      obtain ⟨hx1, hx2⟩ := List.mem_filter.mp hxm
      have hx3 := List.mem_range'_1.mp hx1
      refine r_ixl hd8 (intsV_get hx) ?_
      walk_at "go"
      refine ⟨l, ps, x, n, rfl, hps8, hlen, hn, o.h0, o.hn, hx3.1, by omega, fun l' H11 hl' e11 hps11 => ?_⟩
      walk_at "go"
      have nel' : l' ≠ p := hp8.ne hl'
      have hHl' : H l' = none := by
        cases z : H l' with
        | none => rfl
        | some u =>
          rw [sb8 l' u nel' z] at hl'
          cases hl'
      have cn := Lk.cntIn_unl hlen hx3.1 (by omega) (inB_iff hx2)
      exact ⟨l', _, _, _, _, rfl, o.unl hx3.1 (by omega) (inB_iff hx2), by omega, hHl', sb8.trans (Same.sb e11), hp8.mono e11, hps11⟩
    · rintro σ H6 ⟨l, ps, v6, v7, v8, rfl, o, hc, hl, sb6, hp6, hps⟩
      walk_at "go"
      exact q l H6 ps o hl sb6 hp6 hps
end
end Lw
set_option Elab.async false
set_option linter.all false
set_option maxRecDepth 100000
set_option maxHeartbeats 4000000
namespace Lw
open PySem PySem.Spec PyProof.Rows L2
local macro_rules | `(tactic| walk_at "h") => `(tactic| first | assumption | (refine (by assumption : Same _ _) _ _ ?_; walk_at "h"))
local macro_rules | `(tactic| walk_at "g1") => `(tactic| first
  | with_reducible refine g_seq ?_ | with_reducible refine g_asg ?_ | with_reducible refine g_name ?_ | with_reducible refine g_drop ?_ | with_reducible refine g_ret ?_ | with_reducible refine g_retN ?_
  | with_reducible refine g_next ?_ | with_reducible refine g_brk ?_ | with_reducible refine g_cont ?_ | with_reducible refine g_if ?_ | ((with_reducible show tVar _ _ _ _); refine ⟨_, rfl, ?_⟩) | with_reducible refine g_c ?_
  | with_reducible refine g_op ?_ | with_reducible refine g_un ?_ | with_reducible refine g_ifE ?_ | with_reducible refine g_test ?_ | with_reducible refine g_B ?_ | with_reducible refine g_and ?_ | with_reducible refine g_or ?_ | with_reducible refine g_not ?_
  | with_reducible refine g_andV ?_ | with_reducible refine g_orV ?_ | with_reducible refine g_notV ?_ | with_reducible refine g_nil ?_ | with_reducible refine g_cons ?_ | with_reducible refine g_cb ?_ | with_reducible refine g_f ?_
  | with_reducible refine g_bl ?_ | with_reducible refine g_blV ?_ | with_reducible refine g_part ?_ | with_reducible refine g_nopart ?_ | with_reducible refine g_sl ?_ | with_reducible refine g_intx ?_
  | with_reducible refine r_i0 ?_ | with_reducible refine r_eqi ?_ | with_reducible refine r_nei ?_ | with_reducible refine r_u ?_
  | with_reducible refine r_isN_non ?_ | with_reducible refine r_isN_ref ?_ | with_reducible refine r_isN_int ?_ | with_reducible refine r_notN_non ?_ | with_reducible refine r_notN_ref ?_
  | with_reducible refine h_lc ?_ | with_reducible refine h_for ?_ | with_reducible refine h_rng1 ?_ | with_reducible refine h_rng2 ?_ | with_reducible refine h_ilist ?_ | with_reducible refine h_lst ?_ | with_reducible refine h_tup ?_
  | with_reducible refine h_fld ?_ | with_reducible refine h_m ?_ | with_reducible refine g_sm ?_ | with_reducible refine g_cm ?_ | with_reducible refine h_mk ?_ | with_reducible refine g_chain ?_ | with_reducible refine g_asgsub ?_ | with_reducible refine g_sfld ?_
  | with_reducible refine g_bm ?_ | with_reducible refine g_bm0 ?_
  | ((with_reducible refine' r_tup0 ?gh ?_); (case gh => walk_at "h")) | ((with_reducible refine' r_tup1 ?gh ?_); (case gh => walk_at "h"))
  | ((with_reducible refine' And.intro (ty_lst ?gh) ?_); (case gh => walk_at "h"))
  | with_reducible refine h_lrg ?_ | with_reducible refine h_rg1 ?_ | with_reducible refine h_rg2 ?_ | with_reducible refine g_int2 ?_ | with_reducible refine h_sfld ?_ | with_reducible refine h_augx rfl ?_ | with_reducible refine h_tru ?_ | with_reducible refine g_ipI ?_ | with_reducible refine h_enum ?_ | with_reducible refine h_enumS ?_ | with_reducible refine h_m1 ?_ | with_reducible refine g_isS ?_ | with_reducible refine h_m0 ?_ | with_reducible refine h_mS ?_ | with_reducible refine h_dget ?_ | with_reducible refine h_dget2 ?_ | with_reducible refine h_dput ?_ | with_reducible refine h_keys ?_ | with_reducible refine h_lvals ?_ | with_reducible refine h_nodeX ?_ | with_reducible refine h_cval ?_
  | with_reducible refine i_true ?_ | with_reducible refine i_false ?_ | with_reducible refine i_nt ?_ | with_reducible refine i_nf ?_)
local macro_rules | `(tactic| walk_at "go") => `(tactic| ((repeat' walk_at "g1"); (try dsimp only)))
section
variable {P : Program} {w : World} {K : PySem.W.Frag} {mg : Str → Option Value} {base : Heap}
theorem listV_ne {n : Nat} {f : Nat → V} {c : Addr} {xs : List V} (h : ∀ a, f 0 ≠ .ref a) : (HO.lst (listV n f)) ≠ .lst (.ref c :: xs) := by
  intro e
  have e2 := congrArg (fun l : List V => l[0]?) (HO.lst.inj e)
  have e2 : (listV n f)[0]? = some (.ref c) := e2
  rw [listV_get (by omega)] at e2
  exact h c (Option.some.inj e2)
theorem ForestAt.bt {H H' : Hp} {p f : Addr} {n : Nat} {ps : Lk.PL} (hp : PurseAt H p) (e : Bt p H H') (h : ForestAt K H f n ps) : ForestAt K H' f n ps := by
  obtain ⟨dx, l, q, hf⟩ := h
  obtain ⟨ldx, la, ra, fa, hl⟩ := hf.lnk
  obtain ⟨c, cs, i, b, s, a, hp⟩ := hp
  have k1 : ∀ {x : Addr} {C d : Addr} {fs : List (Str × V)}, H x = some (.ins C d fs) → H' x = some (.ins C d fs) := fun h => by rw [e _ (ne_of h hp.obj (by intro q; cases q))]; exact h
  have k2 : ∀ {x : Addr} {g : Nat → V}, H x = some (.lst (listV n g)) → (∀ a, g 0 ≠ .ref a) → H' x = some (.lst (listV n g)) := fun h hg => by rw [e _ (ne_of h hp.obj (listV_ne hg))]; exact h
  have nl : ∀ a, leftV ps 0 ≠ .ref a := fun a z => by cases z
  have nr : ∀ a, rightV n ps 0 ≠ .ref a := fun a z => by unfold rightV at z; split at z <;> cases z
  have nf : ∀ a, flagV ps 0 ≠ .ref a := fun a z => by cases z
  have np : ∀ a, parV ps 0 ≠ .ref a := fun a z => by unfold parV at z; split at z <;> cases z
  exact ⟨dx, l, q, k1 hf.obj, ⟨ldx, la, ra, fa, k1 hl.obj, k2 hl.l_ nl, k2 hl.r_ nr, k2 hl.f_ nf, hl.lr, hl.lf_, hl.rf⟩, k2 hf.par np⟩
theorem sc_law : FnScope ["_law_script", "_law_purse_here", "_law_size", "_law_pairs", "_law_forest_here", "_law_ins", "_law_outs", "_law_node_here", "_law_tops_here", "_law_v"] ["_law_script"] (defScope s_law) := ⟨rfl, rfl, rfl, by decide +kernel, rfl, by decide +kernel, by decide +kernel⟩
theorem bd_law : BindsP "law" "law" s_law ["_law_script"] := fun _ _ _ _ _ _ us hl => match us, hl with | [_], _ => rfl
def sp_law (K : PySem.W.Frag) : Sp := fun vs H Q _ => ∃ (a : Addr) (ns : List Int), vs = [.ref a] ∧ SqL K H a (ns.map V.int) ∧ ns.length ≤ 1000 ∧ ∀ H', Q (.bl true) H'
set_option maxHeartbeats 4000000 in
theorem ok_law {fd : FuncData} (T : Tx K mg) (B : Bx P K mg) (F : Fun K "law" "law" s_law (He.ga K "law") fd) : FnOk P w K mg base CX0 11 (He.ga K "law") fd ["_law_script"] (sp_law K) := by
  refine F.ok sc_law (fun vs H Q E h => ?_) (fun cdv A outer s H vs Q E hr h => ?_)
  · obtain ⟨a, ns, rfl, _⟩ := h
    rfl
  · obtain ⟨a, ns, rfl, hS, hln, q⟩ := h
    refine ⟨_, (pss_cons (ps_set (i := 1) sc_law.nd rfl (by first | exact Or.inl rfl | exact Or.inr rfl) (pe_f (ok_law_purse (K := K) T) (hr.mono (by decide)) rfl T.g_law_purse T.k_law_purse pass0 (pa_cons (pv 0) pa_nil))) (pss_cons (ps_set (i := 2) sc_law.nd rfl (by first | exact Or.inl rfl | exact Or.inr rfl) (pe_f (ok_law_take (K := K) T) (hr.mono (by decide)) rfl T.g_law_take T.k_law_take pass0 (pa_cons (pv 1) (pa_cons pe_int pa_nil)))) (Evl.pss_cut (ps_if (pt_cmpR op_eq (pe_f (ok_law_take (K := K) T) (hr.mono (by decide)) rfl T.g_law_take T.k_law_take pass0 (pa_cons (pv 1) (pa_cons pe_int pa_nil))) pe_int (nomark _)) (pss_one (ps_set (i := 2) sc_law.nd rfl (by first | exact Or.inl rfl | exact Or.inr rfl) (pe_op op_add pe_int (pe_f (ok_law_take (K := K) T) (hr.mono (by decide)) rfl T.g_law_take T.k_law_take pass0 (pa_cons (pv 1) (pa_cons pe_int pa_nil)))))) pss_nil) (pss_cons (ps_set (i := 3) sc_law.nd rfl (by first | exact Or.inl rfl | exact Or.inr rfl) (pe_f (ok_law_draw (K := K) T) (hr.mono (by decide)) rfl T.g_law_draw T.k_law_draw pass0 (pa_cons (pv 1) (pa_cons (pv 2) pa_nil)))) (pss_cons (ps_set (i := 4) sc_law.nd rfl (by first | exact Or.inl rfl | exact Or.inr rfl) (pe_f (ok_law_forest (K := K) T) (hr.mono (by decide)) rfl T.g_law_forest T.k_law_forest pass0 (pa_cons (pv 3) (pa_cons (pe_f (ok_law_take (K := K) T) (hr.mono (by decide)) rfl T.g_law_take T.k_law_take pass0 (pa_cons (pv 1) (pa_cons pe_int pa_nil))) pa_nil)))) (pss_cons (ps_if (PW.pt (pw_or (pt_not (pt_val (pe_f (ok_law_looks (K := K) T B) (hr.mono (by decide)) rfl T.g_law_looks T.k_law_looks pass0 (pa_cons (pv 4) (pa_cons (pv 3) pa_nil))))) (pw_or1 (pt_not (pt_val (pe_f (ok_law_summed (K := K) T) (hr.mono (by decide)) rfl T.g_law_summed T.k_law_summed pass0 (pa_cons (pv 4) (pa_cons (pv 3) pa_nil)))))))) (pss_one (ps_ret pe_bl)) pss_nil) (pss_cons (ps_setLc (own := [("_law_v", 9)]) (g := gName 9) (i := 5) rfl sc_law.nd rfl rfl (sw_true rfl rfl rfl (by decide +kernel)) (pi_range2 rfl T.n_range (pa_cons pe_int (pa_cons (pe_op op_add (pv 2) pe_int) pa_nil))) (blkOk_by (own := [("_law_v", 9)]) (N := ["_law_script", "_law_purse_here", "_law_size", "_law_pairs", "_law_forest_here", "_law_ins", "_law_outs", "_law_node_here", "_law_tops_here", "_law_v"]) (sc := defScope s_law) (by decide +kernel)) (fun _ _ _ _ _ => pg_name (i := 9) sc_law.nd rfl (Or.inl rfl)) (fun _ _ _ _ _ => (pts_one (pt_cmpR op_isN1 (pe_ix (ixl (K := K) rfl) (pv 3) (pv 9) (fun _ _ => rfl)) pe_non (nomark _)))) (fun _ _ _ _ _ => (pv 9))) (pss_cons (ps_setLc (own := [("_law_v", 9)]) (g := gName 9) (i := 6) rfl sc_law.nd rfl rfl (sw_true rfl rfl rfl (by decide +kernel)) (pi_range2 rfl T.n_range (pa_cons pe_int (pa_cons (pe_op op_add (pv 2) pe_int) pa_nil))) (blkOk_by (own := [("_law_v", 9)]) (N := ["_law_script", "_law_purse_here", "_law_size", "_law_pairs", "_law_forest_here", "_law_ins", "_law_outs", "_law_node_here", "_law_tops_here", "_law_v"]) (sc := defScope s_law) (by decide +kernel)) (fun _ _ _ _ _ => pg_name (i := 9) sc_law.nd rfl (Or.inl rfl)) (fun _ _ _ _ _ => (pts_one (pt_cmpR op_notN1 (pe_ix (ixl (K := K) rfl) (pv 3) (pv 9) (fun _ _ => rfl)) pe_non (nomark _)))) (fun _ _ _ _ _ => (pv 9))) (Evl.pss_cut (ps_if (pt_cmpR (neDK (K := K) rfl hr.units) (pv 5) (pe_lst pa_nil) (nomark _)) (pss_cons (ps_set (i := 7) sc_law.nd rfl (by first | exact Or.inl rfl | exact Or.inr rfl) (pe_ix (ixl (K := K) rfl) (pv 5) (pe_f (ok_law_take (K := K) T) (hr.mono (by decide)) rfl T.g_law_take T.k_law_take pass0 (pa_cons (pv 1) (pa_cons (pe_callB (lenK (K := K) rfl) (by rfl) T.n_len PySem.boot_len (pa_cons (pv 5) pa_nil)) pa_nil))) (fun _ _ => rfl))) (pss_one (ps_if (pt_not (pt_val (pe_f (ok_law_looks (K := K) T B) (hr.mono (by decide)) rfl T.g_law_looks T.k_law_looks pass0 (pa_cons (pe_m (pv 4) T.cForest T.mForest_unlinked (ok_Forest_unlinked (K := K) T) (hr.mono (by decide)) pass0 (pa_cons (pv 7) pa_nil)) (pa_cons (pe_f (ok_law_unlinked (K := K) T) (hr.mono (by decide)) rfl T.g_law_unlinked T.k_law_unlinked pass0 (pa_cons (pv 3) (pa_cons (pv 7) pa_nil))) pa_nil))))) (pss_one (ps_ret pe_bl)) pss_nil))) pss_nil) (Evl.pss_cut (ps_if (pt_cmpR (neDK (K := K) rfl hr.units) (pv 6) (pe_lst pa_nil) (nomark _)) (pss_cons (ps_set (i := 8) sc_law.nd rfl (by first | exact Or.inl rfl | exact Or.inr rfl) (pe_f (ok_law_tops (K := K) T) (hr.mono (by decide)) rfl T.g_law_tops T.k_law_tops pass0 (pa_cons (pv 3) pa_nil))) (pss_cons (ps_set (i := 7) sc_law.nd rfl (by first | exact Or.inl rfl | exact Or.inr rfl) (pe_ix (ixl (K := K) rfl) (pv 8) (pe_f (ok_law_take (K := K) T) (hr.mono (by decide)) rfl T.g_law_take T.k_law_take pass0 (pa_cons (pv 1) (pa_cons (pe_callB (lenK (K := K) rfl) (by rfl) T.n_len PySem.boot_len (pa_cons (pv 8) pa_nil)) pa_nil))) (fun _ _ => rfl))) (pss_cons (ps_if (pt_not (pt_val (pe_f (ok_law_looks (K := K) T B) (hr.mono (by decide)) rfl T.g_law_looks T.k_law_looks pass0 (pa_cons (pe_m (pv 4) T.cForest T.mForest_relinked (ok_Forest_relinked (K := K) T) (hr.mono (by decide)) pass0 (pa_cons (pv 7) pa_nil)) (pa_cons (pe_f (ok_law_relinked (K := K) T) (hr.mono (by decide)) rfl T.g_law_relinked T.k_law_relinked pass0 (pa_cons (pv 3) (pa_cons (pv 7) pa_nil))) pa_nil))))) (pss_one (ps_ret pe_bl)) pss_nil) (pss_one (ps_if (pt_not (pt_val (pe_f (ok_law_led_down (K := K) T B) (hr.mono (by decide)) rfl T.g_law_led_down T.k_law_led_down pass0 (pa_cons (pv 4) (pa_cons (pv 3) (pa_cons (pe_ix (ixl (K := K) rfl) (pv 6) (pe_f (ok_law_take (K := K) T) (hr.mono (by decide)) rfl T.g_law_take T.k_law_take pass0 (pa_cons (pv 1) (pa_cons (pe_callB (lenK (K := K) rfl) (by rfl) T.n_len PySem.boot_len (pa_cons (pv 6) pa_nil)) pa_nil))) (fun _ _ => rfl)) pa_nil)))))) (pss_one (ps_ret pe_bl)) pss_nil))))) pss_nil) (pss_one (ps_ret (pe_f (ok_law_looks (K := K) T B) (hr.mono (by decide)) rfl T.g_law_looks T.k_law_looks pass0 (pa_cons (pv 4) (pa_cons (pv 3) pa_nil))))))))))))))), ?_⟩
    walk_at "go"
    refine ⟨a, ns, rfl, hS, hln, fun p H1 hp e1 hp1 => ?_⟩
    walk_at "go"
    refine ⟨p, 10, rfl, hp1, by decide, by decide, fun s0 H2 hs0 b2 hp2 => ?_⟩
    walk_at "go"
    refine ⟨fun σ H' => ∃ (n : Nat), n ≤ 60 ∧ σ = [some (.ref a), some (.ref p), some (.int (n : Int)), none, none, none, none, none, none, none] ∧ PurseAt H' p, ?_, ?_⟩
    · walk_at "go"
      refine ⟨p, 10, rfl, hp2, by decide, by decide, fun d H3 hd b3 hp3 => ?_⟩
      walk_at "go"
      refine i_dec (fun c => ?_) (fun c => ?_)
      · walk_at "go"
        refine ⟨p, 51, rfl, hp3, by decide, by decide, fun d2 H4 hd2 b4 hp4 => ?_⟩
        walk_at "go"
        exact ⟨10 + d2, by omega, by rw [Int.natCast_add]; rfl, hp4⟩
      · walk_at "go"
        exact ⟨s0, by omega, rfl, hp3⟩
    rintro σ H3 ⟨n, hn, rfl, hp3⟩
    walk_at "go"
    refine ⟨p, n, rfl, hp3, hn, fun l H4 ps o hl4 sb4 hp4 hps4 => ?_⟩
    have hlen := o.len
    have nel : l ≠ p := by
      intro z
      obtain ⟨c, cs, i, b, s, a, h⟩ := hp3
      rw [z, h.obj] at hl4
      cases hl4
    walk_at "go"
    refine ⟨p, 4, rfl, hp4, by decide, by decide, fun way H5 hw b5 hp5 => ?_⟩
    have hps5 := hps4.bt hp4 nel b5
    refine ⟨l, ps, n, way, rfl, hps5, o, hn, fun f H6 hf6 e6 F6 => ?_⟩
    have hp6 := hp5.mono e6
    have hps6 := hps5.mono e6
    walk_at "go"
    refine ⟨f, l, ps, n, rfl, F6, hps6, o, hn, fun H7 e7 => ?_⟩
    walk_at "go"
    refine ⟨f, l, ps, n, rfl, F6.mono e7, hps6.mono e7, o, hn, fun H8 e8 => ?_⟩
    walk_at "go"
    have e68 := e7.trans e8
    have F8 := F6.mono e68
    have hps8 := hps6.mono e68
    have hp8 := hp6.mono e68
    refine a_r2 1 n rfl (by omega) (by omega) ?_
    refine l_rN (inB ps) (fun i => .int (i : Int)) (by omega) (fun _ => rfl) (fun i H1 _ hi e R k => ?_) (fun i H1 _ hi e hf R k => ?_) (fun D H9 hD e9 hd => ?_)
    · walk_at "go"
      exact e_isN (hps8.mono e) (by omega) ⟨_, rfl, k H1 (Same.refl _)⟩
    · walk_at "go"
      exact k H1 (Same.refl _)
    have hd9 : H9 D = some (.lst (intsV ((List.range' 1 n).filter (inB ps)))) := hd
    walk_at "go"
    refine a_r2 1 n rfl (by omega) (by omega) ?_
    refine l_rN (outB ps) (fun i => .int (i : Int)) (by omega) (fun _ => rfl) (fun i H1 _ hi e R k => ?_) (fun i H1 _ hi e hf R k => ?_) (fun D2 H10 hD2 e10 hd2 => ?_)
    · walk_at "go"
      exact e_notN ((hps8.mono e9).mono e) (by omega) ⟨_, rfl, k H1 (Same.refl _)⟩
    · walk_at "go"
      exact k H1 (Same.refl _)
    have hd10 : H10 D2 = some (.lst (intsV (outsN n ps))) := hd2
    have e8a := e9.trans e10
    have hp10 := hp8.mono e8a
    have neD : D ≠ p := hp8.ne hD
    have neD2 : D2 ≠ p := (hp8.mono e9).ne hD2
    walk_at "go"
    refine ⟨fun σ H' => ∃ (v7 : Option V), σ = [some (.ref a), some (.ref p), some (.int (n : Int)), some (.ref l), some (.ref f), some (.ref D), some (.ref D2), v7, none, none] ∧ PurseAt H' p ∧ ForestAt K H' f n ps ∧ PairsAt H' l ps ∧ H' D2 = some (.lst (intsV (outsN n ps))), ?_, ?_⟩
    · walk_at "go"
      refine a_lst (xs := []) (fun z H11 hz e11 h11 => ?_) (Nat.zero_le _)
      walk_at "go"
      have e811 := e8a.trans e11
      have hd11 := e11 _ _ (e10 _ _ hd9)
      refine a_neNil hd11 h11 ?_
      walk_at "go"
      refine i_ndec (fun c => ?_) (fun c => ?_)
      · walk_at "go"
        refine a_len hd11 ?_
        rw [intsV_len]
        walk_at "go"
        have il : ((List.range' 1 n).filter (inB ps)).length ≤ n := by
          have := List.length_filter_le (inB ps) (List.range' 1 n)
          rw [List.length_range'] at this
          exact this
        refine ⟨p, ((List.range' 1 n).filter (inB ps)).length, rfl, hp8.mono e811, List.length_pos_iff.mpr c, by omega, fun d H12 hd12 b12 hp12 => ?_⟩
        obtain ⟨x, hx⟩ : ∃ x, ((List.range' 1 n).filter (inB ps))[d]? = some x := ⟨_, List.getElem?_eq_getElem hd12⟩
        obtain ⟨hx1, hx2⟩ := List.mem_filter.mp (List.mem_of_getElem? hx)
        have hx3 := List.mem_range'_1.mp hx1
        have hxin := inB_iff hx2
        have F12 := (F8.mono e811).bt (hp8.mono e811) b12
        have ps12 := (hps8.mono e811).bt (hp8.mono e811) nel b12
        have hD12 : H12 D = some (.lst (intsV ((List.range' 1 n).filter (inB ps)))) := by rw [b12 D neD]; exact hd11
        refine r_ixl hD12 (intsV_get hx) ?_
        walk_at "go"
        refine am_f F12 ?_
        walk_at "go"
        refine ⟨f, n, x, ps, rfl, F12, o, hn, hx3.1, by omega, hxin, fun f' H13 hf' e13 F13 => ?_⟩
        walk_at "go"
        refine ⟨l, ps, x, n, rfl, ps12.mono e13, hlen, hn, o.h0, o.hn, hx3.1, by omega, fun l' H14 hl' e14 ps14 => ?_⟩
        refine ⟨f', l', _, n, rfl, F13.mono e14, ps14, o.unl hx3.1 (by omega) hxin, hn, fun H15 e15 => ?_⟩
        walk_at "go"
        have e1215 := (e13.trans e14).trans e15
        exact ⟨_, rfl, hp12.mono e1215, F12.mono e1215, ps12.mono e1215, e1215 _ _ (by rw [b12 D2 neD2]; exact e11 _ _ hd10)⟩
      · walk_at "go"
        exact ⟨_, rfl, hp8.mono e811, F8.mono e811, hps8.mono e811, e11 _ _ hd10⟩
    rintro σ H11 ⟨v7, rfl, hp11, F11, ps11, hd11⟩
    walk_at "go"
    refine ⟨fun σ H' => ∃ (v7 v8 : Option V), σ = [some (.ref a), some (.ref p), some (.int (n : Int)), some (.ref l), some (.ref f), some (.ref D), some (.ref D2), v7, v8, none] ∧ ForestAt K H' f n ps ∧ PairsAt H' l ps, ?_, ?_⟩
    · walk_at "go"
      refine a_lst (xs := []) (fun z H12 hz e12 h12 => ?_) (Nat.zero_le _)
      walk_at "go"
      have hd12 := e12 _ _ hd11
      refine a_neNil hd12 h12 ?_
      walk_at "go"
      refine i_ndec (fun c => ?_) (fun c => ?_)
      · walk_at "go"
        refine ⟨l, ps, rfl, ps11.mono e12, OKBd o, by omega, fun t H13 ht e13 h13 => ?_⟩
        rw [tops_eq o] at h13
        have e123 := e12.trans e13
        have hp13 := hp11.mono e123
        have net : t ≠ p := (hp11.mono e12).ne ht
        walk_at "go"
        refine a_len h13 ?_
        rw [intsV_len]
        walk_at "go"
        have tl := topsN_len n ps
        have tne : topsN n ps ≠ [] := fun z => c ((tops_empty o).mp z)
        refine ⟨p, (topsN n ps).length, rfl, hp13, List.length_pos_iff.mpr tne, by omega, fun d H14 hd14 b14 hp14 => ?_⟩
        obtain ⟨x, hx⟩ : ∃ x, (topsN n ps)[d]? = some x := ⟨_, List.getElem?_eq_getElem hd14⟩
        have top := (topsN_mem o).mp (List.mem_of_getElem? hx)
        have tp := o.pos (isTop_out top)
        have F14 := (F11.mono e123).bt hp13 b14
        have ps14 := (ps11.mono e123).bt hp13 nel b14
        have ht14 : H14 t = some (.lst (intsV (topsN n ps))) := by rw [b14 t net]; exact h13
        have hD14 : H14 D2 = some (.lst (intsV (outsN n ps))) := by rw [b14 D2 neD2]; exact e13 _ _ hd12
        refine r_ixl ht14 (intsV_get hx) ?_
        walk_at "go"
        refine am_f F14 ?_
        walk_at "go"
        refine ⟨f, n, x, ps, rfl, F14, o, hn, top, fun f' H15 hf' e15 F15 => ?_⟩
        walk_at "go"
        refine ⟨l, ps, x, rfl, ps14.mono e15, by omega, fun l' H16 hl' e16 ps16 => ?_⟩
        refine ⟨f', l', _, n, rfl, F15.mono e16, ps16, o.rel top, hn, fun H17 e17 => ?_⟩
        walk_at "go"
        have e147 := (e15.trans e16).trans e17
        have hp17 := hp14.mono e147
        have hD17 := e147 _ _ hD14
        have F17 := F14.mono e147
        have ps17 := ps14.mono e147
        refine a_len hD17 ?_
        rw [intsV_len]
        walk_at "go"
        have ol := outsN_len n ps
        refine ⟨p, (outsN n ps).length, rfl, hp17, List.length_pos_iff.mpr c, by omega, fun d2 H18 hd18 b18 hp18 => ?_⟩
        obtain ⟨y, hy⟩ : ∃ x, (outsN n ps)[d2]? = some x := ⟨_, List.getElem?_eq_getElem hd18⟩
        have hout := (outsN_mem o).mp (List.mem_of_getElem? hy)
        have F18 := F17.bt hp17 b18
        have ps18 := ps17.bt hp17 nel b18
        have hD18 : H18 D2 = some (.lst (intsV (outsN n ps))) := by rw [b18 D2 neD2]; exact hD17
        refine r_ixl hD18 (intsV_get hy) ?_
        refine ⟨f, l, ps, n, y, rfl, F18, ps18, o, hn, hout, fun H19 e19 => ?_⟩
        walk_at "go"
        exact ⟨_, _, rfl, F18.mono e19, ps18.mono e19⟩
      · walk_at "go"
        exact ⟨_, _, rfl, F11.mono e12, ps11.mono e12⟩
    rintro σ H12 ⟨v7, v8, rfl, F12, ps12⟩
    walk_at "go"
    exact ⟨f, l, ps, n, rfl, F12, ps12, o, hn, fun H13 _ => q H13⟩
end
end Lw
set_option Elab.async false
set_option linter.all false
set_option maxRecDepth 100000
set_option maxHeartbeats 4000000
namespace Lw
open PySem PySem.Spec PySem.Calls PyProof.Rows L2 PySem.HandSPX PySem.W
section
variable {K : Frag}
theorem SaysK.all3 (c : SaysK K) : (hfa.all fun f => f.ok K) = true ∧ (hfn.all fun d => d.ok K) = true ∧ (hex.all fun f => f K) = true := by
  obtain ⟨a, b⟩ := He.ba (show ((hfa.all fun f => f.ok K) && ((hfn.all fun d => d.ok K) && hex.all fun f => f K)) = true from congrArg (fun z : Al => z.1) c)
  exact ⟨a, He.ba b⟩
theorem SaysK.fact (c : SaysK K) (i : Nat) {f : He.Fa} (h : hfa[i]? = some f := by rfl) : f.ok K = true := List.all_eq_true.mp c.all3.1 f (List.mem_of_getElem? h)
theorem SaysK.ext (c : SaysK K) (i : Nat) {f : Frag → Bool} (h : hex[i]? = some f := by rfl) : f K = true := List.all_eq_true.mp c.all3.2.2 f (List.mem_of_getElem? h)
theorem SaysK.def_ (c : SaysK K) (i : Nat) {d : He5.DefA} (h : hfn[i]? = some d := by rfl) : ∃ fd, FunD K d.name d.qual d.params d.body d.scope (d.dvs K) (d.kws K) (d.at_ K) fd := by
  have e : hfn.map (fun d => He5.fnA K (d.at_ K)) = hfn.map He5.DefA.val := congrArg (fun z : Al => z.2.1) c
  have e2 : (hfn.map fun d => He5.fnA K (d.at_ K))[i]? = (hfn.map He5.DefA.val)[i]? := by rw [e]
  rw [List.getElem?_map, List.getElem?_map, h] at e2
  exact He5.DefA.funD (Option.some.inj e2) (List.all_eq_true.mp c.all3.2.1 d (List.mem_of_getElem? h))
theorem SaysK.bn (c : SaysK K) : bnRow K = bnVal := congrArg (fun z : Al => z.2.2) c
end
section
variable {K : Frag} {h : Heap} {mg : Str → Option Value}
theorem facB_ok (X : K.In h) (G : h.Ns mainGlobals mg) (c : facB K = true) : mg "factorial" = some (.builtin "math.factorial") := mg_of X G (He.eqO_ok c)
theorem creadB_ok {x : Str} (c : creadB x K = true) : ClX.CRead K (He.ga K x) (.type "type") := by
  obtain ⟨a, b⟩ := He.ba c
  exact ⟨a, He.eqO_ok b⟩
theorem cvalB_ok {x f : Str} {i : Int} (c : cvalB x f i K = true) : ∃ u, ClX.CVal K (He.ga K x) (.type "type") f (.int i) u := by
  unfold cvalB at c
  split at c
  · rename_i u e
    exact ⟨u, e, He.relB_ok c⟩
  · cases c
theorem smB_ok {x m : Str} (c : smB x m K = true) : SMet K (He.ga K x) (.type "type") m (He.ma K (He.ga K x) m) (He5.wf K (He.ga K x) "staticmethod" m) := by
  obtain ⟨a, b⟩ := He.ba c
  obtain ⟨a1, a2⟩ := He5.wrapB_ok a
  exact ⟨a1, a2, b⟩
theorem cmB_ok {x m : Str} (c : cmB x m K = true) : ClX.CMet K (He.ga K x) (.type "type") m (He.ma K (He.ga K x) m) (He5.wf K (He.ga K x) "classmethod" m) := by
  obtain ⟨a, b⟩ := He.ba c
  exact He5.cmet_of a b
theorem veB_ok (c : veB K = true) : ∃ nm q N bs bm sn sub ab col dd k0 k1 k2 k3 k5, K.lookup (He.ga K "BadNode") = some (excClassObj nm q (He.ga K "BadNode") N bs bm true sn sub ab col dd k0 k1 k2 k3 k5 "ValueError.__new__") ∧ refsVE bm = true := by
  unfold veB at c
  split at c
  · rename_i dd cd sl ho
    split at c
    · rename_i C' bm k0 k1 k2 k3 n k5 hm hs
      obtain ⟨c1, c⟩ := He.ba c
      obtain ⟨c2, c⟩ := He.ba c
      obtain ⟨c3, c⟩ := He.ba c
      obtain ⟨c4, c5⟩ := He.ba c
      have e1 := of_decide_eq_true c1
      have e2 := of_decide_eq_true c2
      have e3 : cd.hasDel = false := by
        cases z : cd.hasDel with
        | false => rfl
        | true => rw [z] at c3; cases c3
      obtain ⟨nm, bs, mro, ns, qn, hd, sn, sub, ab, col, del⟩ := cd
      dsimp only at hm e3 c4
      subst hm e3 c4 e2
      have hsl : sl = #[k0, k1, k2, k3, some (.builtin "ValueError.__new__"), k5] := by
        obtain ⟨l⟩ := sl
        simp only at hs
        rw [hs]
      subst hsl
      rw [e1] at ho
      exact ⟨nm, qn, ns, bs, bm, sn, sub, ab, col, dd, k0, k1, k2, k3, k5, ho, c5⟩
    · cases c
  · cases c
theorem fnB_ok (e : bnRow K = bnVal) (c : cdB K = true) : ∃ (oc : Value) (od : Option Addr) (kV doc pm : Value) (an : Option Addr) (ct : Value) (osl : Array (Option Value)),
    K.lookup (bnI K) = some ⟨oc, od, .func (ksFn "__init__" "BadNode.__init__" (L2.defArgs bnS) (L2.defBody bnS) (L2.defScope bnS) .none kV doc pm an (.ref (bnCd K)) ct (bnC K)), osl⟩ ∧ codeIn K (.ref (bnCd K)) "BadNode.__init__" = true := by
  unfold bnRow at e
  unfold cdB at c
  unfold bnCd bnC
  cases q : K.lookup (bnI K) with
  | none =>
    rw [q] at c
    cases c
  | some o =>
    obtain ⟨oc, od, dt, osl⟩ := o
    rw [q] at c e
    cases dt with
    | func fd =>
      obtain ⟨n1, n2, n3, n4, n5, n6, n7, n8, n9, n10, n11, n12, n13, n14, n15⟩ := fd
      have e2 : (some (n1, n2, n3, n4, n5, n6, n7.map (·.1), n8, n15) : BnR) = bnVal := e
      unfold bnVal at e2
      simp only [Option.some.injEq, Prod.mk.injEq] at e2
      obtain ⟨h1, h2, h3, h4, h5, h6, h7, h8, h9⟩ := e2
      subst h1 h2 h3 h4 h5 h6 h8 h9
      obtain ⟨p, rfl, hp⟩ : ∃ p : Str × Addr, n7 = [p] ∧ p.1 = "__class__" := by
        cases n7 with
        | nil => cases h7
        | cons p r =>
          cases r with
          | nil => exact ⟨p, rfl, (List.cons.inj h7).1⟩
          | cons p2 r => cases (List.cons.inj h7).2
      obtain ⟨p1, p2⟩ := p
      dsimp only at hp
      subst hp
      clear e q
      cases n13 with
      | ref a => exact ⟨oc, od, n9, n10, n11, n12, n14, osl, rfl, c⟩
      | _ => cases c
    | _ => cases c
theorem flB_ok {P : Program} (hp : P.main.file = "/claim/cut.py") (c : flB K = true) : ∃ ccl cdd vs ccs file tf, K.lookup (bnCd K) = some ⟨ccl, cdd, .fields vs, ccs⟩ ∧ vs[2]? = some (.str file tf) ∧ ((P.main.file : Str) == file) = true := by
  unfold flB at c
  split at c
  · rename_i ccl cdd vs ccs e
    split at c
    · rename_i f t e2
      exact ⟨_, _, vs, _, f, t, e, e2, by rw [hp, of_decide_eq_true c]; exact beq_self_eq_true _⟩
    · cases c
  · cases c
theorem ceB_ok (c : ceB K = true) : ∃ cl cld csl, K.lookup (bnC K) = some ⟨cl, cld, .cell (some (.ref (He.ga K "BadNode"))), csl⟩ := by
  unfold ceB at c
  split at c
  · rename_i cl cld a csl e
    exact ⟨_, _, _, by rw [e, of_decide_eq_true c]⟩
  · cases c
theorem tx_of (X : K.In h) (G : h.Ns mainGlobals mg) (c : SaysK K) : Tx K mg where
  n_len := He.free_ok X G (c.fact 0 (f := .free "len") rfl)
  n_abs := He.free_ok X G (c.fact 1 (f := .free "abs") rfl)
  n_max := He.free_ok X G (c.fact 2 (f := .free "max") rfl)
  n_min := He.free_ok X G (c.fact 3 (f := .free "min") rfl)
  n_int := He.free_ok X G (c.fact 4 (f := .free "int") rfl)
  n_bool := He.free_ok X G (c.fact 5 (f := .free "bool") rfl)
  n_list := He.free_ok X G (c.fact 6 (f := .free "list") rfl)
  n_str := He.free_ok X G (c.fact 7 (f := .free "str") rfl)
  n_sum := He.free_ok X G (c.fact 8 (f := .free "sum") rfl)
  n_sorted := He.free_ok X G (c.fact 9 (f := .free "sorted") rfl)
  n_isinstance := He.free_ok X G (c.fact 10 (f := .free "isinstance") rfl)
  n_range := He.free_ok X G (c.fact 11 (f := .free "range") rfl)
  n_enumerate := He.free_ok X G (c.fact 12 (f := .free "enumerate") rfl)
  g_factorial := facB_ok X G (c.ext 0 (f := facB) rfl)
  g_MOST_NODES := He.int_ok X G (c.fact 13 (f := .int "MOST_NODES" 60) rfl)
  g_MOST_DIGITS := He.int_ok X G (c.fact 14 (f := .int "MOST_DIGITS" 9) rfl)
  g_PARTS := He.int_ok X G (c.fact 15 (f := .int "PARTS" 3) rfl)
  g_Links := He.glo_ok X G (c.fact 16 (f := .glo "Links") rfl)
  cLinks := He.cls_ok (c.fact 17 (f := .cls "Links") rfl)
  mkLinks := He.mkr_ok (c.fact 18 (f := .mkr "Links") rfl)
  crLinks := creadB_ok (c.ext 1 (f := creadB "Links") rfl)
  vLinks_MOST := cvalB_ok (c.ext 2 (f := cvalB "Links" "MOST" 60) rfl)
  aLinks_size := He.noat_ok (c.fact 19 (f := .noat "Links" "size") rfl)
  aLinks__lefts := He.noat_ok (c.fact 20 (f := .noat "Links" "_lefts") rfl)
  aLinks__rights := He.noat_ok (c.fact 21 (f := .noat "Links" "_rights") rfl)
  aLinks__flags := He.noat_ok (c.fact 22 (f := .noat "Links" "_flags") rfl)
  g_Forest := He.glo_ok X G (c.fact 23 (f := .glo "Forest") rfl)
  cForest := He.cls_ok (c.fact 24 (f := .cls "Forest") rfl)
  mkForest := He.mkr_ok (c.fact 25 (f := .mkr "Forest") rfl)
  crForest := creadB_ok (c.ext 3 (f := creadB "Forest") rfl)
  aForest_size := He.noat_ok (c.fact 26 (f := .noat "Forest" "size") rfl)
  aForest__links := He.noat_ok (c.fact 27 (f := .noat "Forest" "_links") rfl)
  aForest__parents := He.noat_ok (c.fact 28 (f := .noat "Forest" "_parents") rfl)
  g_check_size := He.glo_ok X G (c.fact 29 (f := .glo "check_size") rfl)
  k_check_size := He.keep_ok (c.fact 30 (f := .keep "check_size") rfl)
  F_check_size := ⟨c.def_ 0 (d := d_check_size) rfl⟩
  g_check_operation := He.glo_ok X G (c.fact 31 (f := .glo "check_operation") rfl)
  k_check_operation := He.keep_ok (c.fact 32 (f := .keep "check_operation") rfl)
  F_check_operation := ⟨c.def_ 1 (d := d_check_operation) rfl⟩
  g_is_number := He.glo_ok X G (c.fact 33 (f := .glo "is_number") rfl)
  k_is_number := He.keep_ok (c.fact 34 (f := .keep "is_number") rfl)
  F_is_number := ⟨c.def_ 2 (d := d_is_number) rfl⟩
  g_numbers := He.glo_ok X G (c.fact 35 (f := .glo "_numbers") rfl)
  k_numbers := He.keep_ok (c.fact 36 (f := .keep "_numbers") rfl)
  F_numbers := ⟨c.def_ 3 (d := d_numbers) rfl⟩
  g_read_rights := He.glo_ok X G (c.fact 37 (f := .glo "_read_rights") rfl)
  k_read_rights := He.keep_ok (c.fact 38 (f := .keep "_read_rights") rfl)
  F_read_rights := ⟨c.def_ 4 (d := d_read_rights) rfl⟩
  g_read_lefts := He.glo_ok X G (c.fact 39 (f := .glo "_read_lefts") rfl)
  k_read_lefts := He.keep_ok (c.fact 40 (f := .keep "_read_lefts") rfl)
  F_read_lefts := ⟨c.def_ 5 (d := d_read_lefts) rfl⟩
  g_read_outs := He.glo_ok X G (c.fact 41 (f := .glo "_read_outs") rfl)
  k_read_outs := He.keep_ok (c.fact 42 (f := .keep "_read_outs") rfl)
  F_read_outs := ⟨c.def_ 6 (d := d_read_outs) rfl⟩
  F_Links___init__ := ⟨c.def_ 7 (d := d_Links___init__) rfl⟩
  stLinks_built := smB_ok (c.ext 4 (f := smB "Links" "built") rfl)
  F_Links_built := ⟨c.def_ 8 (d := d_Links_built) rfl⟩
  stLinks_read := smB_ok (c.ext 5 (f := smB "Links" "read") rfl)
  F_Links_read := ⟨c.def_ 9 (d := d_Links_read) rfl⟩
  mLinks_left := He.meth_ok (c.fact 43 (f := .meth "Links" "left") rfl)
  F_Links_left := ⟨c.def_ 10 (d := d_Links_left) rfl⟩
  mLinks_right := He.meth_ok (c.fact 44 (f := .meth "Links" "right") rfl)
  F_Links_right := ⟨c.def_ 11 (d := d_Links_right) rfl⟩
  mLinks_is_out := He.meth_ok (c.fact 45 (f := .meth "Links" "is_out") rfl)
  F_Links_is_out := ⟨c.def_ 12 (d := d_Links_is_out) rfl⟩
  mLinks_outs := He.meth_ok (c.fact 46 (f := .meth "Links" "outs") rfl)
  F_Links_outs := ⟨c.def_ 13 (d := d_Links_outs) rfl⟩
  mLinks_apply := He.meth_ok (c.fact 47 (f := .meth "Links" "apply") rfl)
  F_Links_apply := ⟨c.def_ 14 (d := d_Links_apply) rfl⟩
  mLinks_apply_at := He.meth_ok (c.fact 48 (f := .meth "Links" "apply_at") rfl)
  F_Links_apply_at := ⟨c.def_ 15 (d := d_Links_apply_at) rfl⟩
  mLinks_is_sound := He.meth_ok (c.fact 49 (f := .meth "Links" "is_sound") rfl)
  F_Links_is_sound := ⟨c.def_ 16 (d := d_Links_is_sound) rfl⟩
  mLinks_copy := He.meth_ok (c.fact 50 (f := .meth "Links" "copy") rfl)
  F_Links_copy := ⟨c.def_ 17 (d := d_Links_copy) rfl⟩
  g_root_of := He.glo_ok X G (c.fact 51 (f := .glo "root_of") rfl)
  k_root_of := He.keep_ok (c.fact 52 (f := .keep "root_of") rfl)
  F_root_of := ⟨c.def_ 18 (d := d_root_of) rfl⟩
  g_has_trees := He.glo_ok X G (c.fact 53 (f := .glo "has_trees") rfl)
  k_has_trees := He.keep_ok (c.fact 54 (f := .keep "has_trees") rfl)
  F_has_trees := ⟨c.def_ 19 (d := d_has_trees) rfl⟩
  g_parent_of := He.glo_ok X G (c.fact 55 (f := .glo "parent_of") rfl)
  k_parent_of := He.keep_ok (c.fact 56 (f := .keep "parent_of") rfl)
  F_parent_of := ⟨c.def_ 20 (d := d_parent_of) rfl⟩
  g_parents_of := He.glo_ok X G (c.fact 57 (f := .glo "parents_of") rfl)
  k_parents_of := He.keep_ok (c.fact 58 (f := .keep "parents_of") rfl)
  F_parents_of := ⟨c.def_ 21 (d := d_parents_of) rfl⟩
  g_followers := He.glo_ok X G (c.fact 59 (f := .glo "followers") rfl)
  k_followers := He.keep_ok (c.fact 60 (f := .keep "followers") rfl)
  F_followers := ⟨c.def_ 22 (d := d_followers) rfl⟩
  F_Forest___init__ := ⟨c.def_ 23 (d := d_Forest___init__) rfl⟩
  stForest_read := smB_ok (c.ext 6 (f := smB "Forest" "read") rfl)
  F_Forest_read := ⟨c.def_ 24 (d := d_Forest_read) rfl⟩
  stForest_of := smB_ok (c.ext 7 (f := smB "Forest" "of") rfl)
  F_Forest_of := ⟨c.def_ 25 (d := d_Forest_of) rfl⟩
  stForest_grown := smB_ok (c.ext 8 (f := smB "Forest" "grown") rfl)
  F_Forest_grown := ⟨c.def_ 26 (d := d_Forest_grown) rfl⟩
  cmForest_after := cmB_ok (c.ext 9 (f := cmB "Forest" "after") rfl)
  F_Forest_after := ⟨c.def_ 27 (d := d_Forest_after) rfl⟩
  mForest___len__ := He.meth_ok (c.fact 61 (f := .meth "Forest" "__len__") rfl)
  F_Forest___len__ := ⟨c.def_ 28 (d := d_Forest___len__) rfl⟩
  mForest___contains__ := He.meth_ok (c.fact 62 (f := .meth "Forest" "__contains__") rfl)
  F_Forest___contains__ := ⟨c.def_ 29 (d := d_Forest___contains__) rfl⟩
  mForest___str__ := He.meth_ok (c.fact 63 (f := .meth "Forest" "__str__") rfl)
  F_Forest___str__ := ⟨c.def_ 30 (d := d_Forest___str__) rfl⟩
  mForest_tops := He.meth_ok (c.fact 64 (f := .meth "Forest" "tops") rfl)
  F_Forest_tops := ⟨c.def_ 31 (d := d_Forest_tops) rfl⟩
  mForest_parent := He.meth_ok (c.fact 65 (f := .meth "Forest" "parent") rfl)
  F_Forest_parent := ⟨c.def_ 32 (d := d_Forest_parent) rfl⟩
  mForest_chain := He.meth_ok (c.fact 66 (f := .meth "Forest" "chain") rfl)
  F_Forest_chain := ⟨c.def_ 33 (d := d_Forest_chain) rfl⟩
  mForest_below := He.meth_ok (c.fact 67 (f := .meth "Forest" "below") rfl)
  F_Forest_below := ⟨c.def_ 34 (d := d_Forest_below) rfl⟩
  mForest_unlinked := He.meth_ok (c.fact 68 (f := .meth "Forest" "unlinked") rfl)
  F_Forest_unlinked := ⟨c.def_ 35 (d := d_Forest_unlinked) rfl⟩
  mForest_relinked := He.meth_ok (c.fact 69 (f := .meth "Forest" "relinked") rfl)
  F_Forest_relinked := ⟨c.def_ 36 (d := d_Forest_relinked) rfl⟩
  mForest_ways_back := He.meth_ok (c.fact 70 (f := .meth "Forest" "ways_back") rfl)
  F_Forest_ways_back := ⟨c.def_ 37 (d := d_Forest_ways_back) rfl⟩
  mForest__check_node := He.meth_ok (c.fact 71 (f := .meth "Forest" "_check_node") rfl)
  F_Forest__check_node := ⟨c.def_ 38 (d := d_Forest__check_node) rfl⟩
  mForest__check_out := He.meth_ok (c.fact 72 (f := .meth "Forest" "_check_out") rfl)
  F_Forest__check_out := ⟨c.def_ 39 (d := d_Forest__check_out) rfl⟩
  g_law_purse := He.glo_ok X G (c.fact 73 (f := .glo "_law_purse") rfl)
  k_law_purse := He.keep_ok (c.fact 74 (f := .keep "_law_purse") rfl)
  F_law_purse := ⟨c.def_ 40 (d := d_law_purse) rfl⟩
  g_law_take := He.glo_ok X G (c.fact 75 (f := .glo "_law_take") rfl)
  k_law_take := He.keep_ok (c.fact 76 (f := .keep "_law_take") rfl)
  F_law_take := ⟨c.def_ 41 (d := d_law_take) rfl⟩
  g_law_is_integer := He.glo_ok X G (c.fact 77 (f := .glo "_law_is_integer") rfl)
  k_law_is_integer := He.keep_ok (c.fact 78 (f := .keep "_law_is_integer") rfl)
  F_law_is_integer := ⟨c.def_ 42 (d := d_law_is_integer) rfl⟩
  g_law_unlinked := He.glo_ok X G (c.fact 79 (f := .glo "_law_unlinked") rfl)
  k_law_unlinked := He.keep_ok (c.fact 80 (f := .keep "_law_unlinked") rfl)
  F_law_unlinked := ⟨c.def_ 43 (d := d_law_unlinked) rfl⟩
  g_law_relinked := He.glo_ok X G (c.fact 81 (f := .glo "_law_relinked") rfl)
  k_law_relinked := He.keep_ok (c.fact 82 (f := .keep "_law_relinked") rfl)
  F_law_relinked := ⟨c.def_ 44 (d := d_law_relinked) rfl⟩
  g_law_is_top := He.glo_ok X G (c.fact 83 (f := .glo "_law_is_top") rfl)
  k_law_is_top := He.keep_ok (c.fact 84 (f := .keep "_law_is_top") rfl)
  F_law_is_top := ⟨c.def_ 45 (d := d_law_is_top) rfl⟩
  g_law_draw := He.glo_ok X G (c.fact 85 (f := .glo "_law_draw") rfl)
  k_law_draw := He.keep_ok (c.fact 86 (f := .keep "_law_draw") rfl)
  F_law_draw := ⟨c.def_ 46 (d := d_law_draw) rfl⟩
  g_law_text := He.glo_ok X G (c.fact 87 (f := .glo "_law_text") rfl)
  k_law_text := He.keep_ok (c.fact 88 (f := .keep "_law_text") rfl)
  F_law_text := ⟨c.def_ 47 (d := d_law_text) rfl⟩
  g_law_left := He.glo_ok X G (c.fact 89 (f := .glo "_law_left") rfl)
  k_law_left := He.keep_ok (c.fact 90 (f := .keep "_law_left") rfl)
  F_law_left := ⟨c.def_ 48 (d := d_law_left) rfl⟩
  g_law_right := He.glo_ok X G (c.fact 91 (f := .glo "_law_right") rfl)
  k_law_right := He.keep_ok (c.fact 92 (f := .keep "_law_right") rfl)
  F_law_right := ⟨c.def_ 49 (d := d_law_right) rfl⟩
  g_law_dump := He.glo_ok X G (c.fact 93 (f := .glo "_law_dump") rfl)
  k_law_dump := He.keep_ok (c.fact 94 (f := .keep "_law_dump") rfl)
  F_law_dump := ⟨c.def_ 50 (d := d_law_dump) rfl⟩
  g_law_removal := He.glo_ok X G (c.fact 95 (f := .glo "_law_removal") rfl)
  k_law_removal := He.keep_ok (c.fact 96 (f := .keep "_law_removal") rfl)
  F_law_removal := ⟨c.def_ 51 (d := d_law_removal) rfl⟩
  g_law_forest := He.glo_ok X G (c.fact 97 (f := .glo "_law_forest") rfl)
  k_law_forest := He.keep_ok (c.fact 98 (f := .keep "_law_forest") rfl)
  F_law_forest := ⟨c.def_ 52 (d := d_law_forest) rfl⟩
  g_law_parent := He.glo_ok X G (c.fact 99 (f := .glo "_law_parent") rfl)
  k_law_parent := He.keep_ok (c.fact 100 (f := .keep "_law_parent") rfl)
  F_law_parent := ⟨c.def_ 53 (d := d_law_parent) rfl⟩
  g_law_chain := He.glo_ok X G (c.fact 101 (f := .glo "_law_chain") rfl)
  k_law_chain := He.keep_ok (c.fact 102 (f := .keep "_law_chain") rfl)
  F_law_chain := ⟨c.def_ 54 (d := d_law_chain) rfl⟩
  g_law_tops := He.glo_ok X G (c.fact 103 (f := .glo "_law_tops") rfl)
  k_law_tops := He.keep_ok (c.fact 104 (f := .keep "_law_tops") rfl)
  F_law_tops := ⟨c.def_ 55 (d := d_law_tops) rfl⟩
  g_law_quotient := He.glo_ok X G (c.fact 105 (f := .glo "_law_quotient") rfl)
  k_law_quotient := He.keep_ok (c.fact 106 (f := .keep "_law_quotient") rfl)
  F_law_quotient := ⟨c.def_ 56 (d := d_law_quotient) rfl⟩
  g_law_counted := He.glo_ok X G (c.fact 107 (f := .glo "_law_counted") rfl)
  k_law_counted := He.keep_ok (c.fact 108 (f := .keep "_law_counted") rfl)
  F_law_counted := ⟨c.def_ 57 (d := d_law_counted) rfl⟩
  g_law_ways := He.glo_ok X G (c.fact 109 (f := .glo "_law_ways") rfl)
  k_law_ways := He.keep_ok (c.fact 110 (f := .keep "_law_ways") rfl)
  F_law_ways := ⟨c.def_ 58 (d := d_law_ways) rfl⟩
  g_law_asked := He.glo_ok X G (c.fact 111 (f := .glo "_law_asked") rfl)
  k_law_asked := He.keep_ok (c.fact 112 (f := .keep "_law_asked") rfl)
  F_law_asked := ⟨c.def_ 59 (d := d_law_asked) rfl⟩
  g_law_rows := He.glo_ok X G (c.fact 113 (f := .glo "_law_rows") rfl)
  k_law_rows := He.keep_ok (c.fact 114 (f := .keep "_law_rows") rfl)
  F_law_rows := ⟨c.def_ 60 (d := d_law_rows) rfl⟩
  g_law_node := He.glo_ok X G (c.fact 115 (f := .glo "_law_node") rfl)
  k_law_node := He.keep_ok (c.fact 116 (f := .keep "_law_node") rfl)
  F_law_node := ⟨c.def_ 61 (d := d_law_node) rfl⟩
  g_law_looks := He.glo_ok X G (c.fact 117 (f := .glo "_law_looks") rfl)
  k_law_looks := He.keep_ok (c.fact 118 (f := .keep "_law_looks") rfl)
  F_law_looks := ⟨c.def_ 62 (d := d_law_looks) rfl⟩
  g_law_summed := He.glo_ok X G (c.fact 119 (f := .glo "_law_summed") rfl)
  k_law_summed := He.keep_ok (c.fact 120 (f := .keep "_law_summed") rfl)
  F_law_summed := ⟨c.def_ 63 (d := d_law_summed) rfl⟩
  g_law_led_down := He.glo_ok X G (c.fact 121 (f := .glo "_law_led_down") rfl)
  k_law_led_down := He.keep_ok (c.fact 122 (f := .keep "_law_led_down") rfl)
  F_law_led_down := ⟨c.def_ 64 (d := d_law_led_down) rfl⟩
  g_law := He.glo_ok X G (c.fact 123 (f := .glo "law") rfl)
  k_law := He.keep_ok (c.fact 124 (f := .keep "law") rfl)
  F_law := ⟨c.def_ 65 (d := d_law) rfl⟩
theorem txt_of {P : Program} (hp : P.main.file = "/claim/cut.py") (hs : (P.main.scope.names.lookup ("super" : Str)).isSome = false) (X : K.In h) (G : h.Ns mainGlobals mg) (c : SaysK K) : BnTxt P K mg (He.ga K "BadNode") (bnI K) (bnC K) (bnCd K) where
  gC := He.glo_ok X G (c.fact 125 (f := .glo "BadNode") rfl)
  cls := veB_ok (c.ext 10 (f := veB) rfl)
  sa := He.eqO_ok (c.ext 14 (f := b_sa) rfl)
  ga := He.eqO_ok (c.ext 15 (f := b_gat) rfl)
  gg := He.eqO_ok (c.ext 16 (f := b_gg) rfl)
  noN := He.eqO_ok (c.ext 17 (f := b_noN) rfl)
  iC := He.eqO_ok (c.ext 18 (f := b_iC) rfl)
  tC := of_decide_eq_true (c.ext 19 (f := b_tC) rfl)
  kC := He.keep_ok (c.fact 128 (f := .keep "BadNode") rfl)
  exC := of_decide_eq_true (c.ext 20 (f := b_exC) rfl)
  tyC := of_decide_eq_true (c.ext 21 (f := b_tyC) rfl)
  hdC := (c.ext 22 (f := b_hdC) rfl)
  te := of_decide_eq_true (c.ext 23 (f := b_te) rfl)
  fn := fnB_ok c.bn (c.ext 11 (f := cdB) rfl)
  code := flB_ok hp (c.ext 12 (f := flB) rfl)
  cell := ceB_ok (c.ext 13 (f := ceB) rfl)
  sup := He.eqO_ok (c.ext 24 (f := b_sup) rfl)
  subB := of_decide_eq_true (c.ext 25 (f := b_subB) rfl)
  subC := of_decide_eq_true (c.ext 26 (f := b_subC) rfl)
  tp := He.eqO_ok (c.ext 27 (f := b_tp) rfl)
  noS := He.free_ok X G (c.fact 129 (f := .free "super") rfl)
  noT := hs
theorem bx_of {P : Program} (hp : P.main.file = "/claim/cut.py") (hs : (P.main.scope.names.lookup ("super" : Str)).isSome = false) (X : K.In h) (G : h.Ns mainGlobals mg) (c : SaysK K) : Bx P K mg where
  txt := ⟨_, _, _, txt_of hp hs X G c⟩
  exc := ⟨He.eqO_ok (c.ext 15 (f := b_gat) rfl), He.eqO_ok (c.ext 16 (f := b_gg) rfl), of_decide_eq_true (c.ext 20 (f := b_exC) rfl), (c.ext 22 (f := b_hdC) rfl), He.eqO_ok (c.ext 28 (f := b_cls_) rfl), He.eqO_ok (c.ext 29 (f := b_spF) rfl), of_decide_eq_true (c.ext 30 (f := b_tkF) rfl), of_decide_eq_true (c.ext 31 (f := b_hm) rfl)⟩
  g_BadNode := He.glo_ok X G (c.fact 125 (f := .glo "BadNode") rfl)
  g_LogError := He.glo_ok X G (c.fact 126 (f := .glo "LogError") rfl)
  g_LinkError := He.glo_ok X G (c.fact 127 (f := .glo "LinkError") rfl)
  noLog := of_decide_eq_true (c.ext 32 (f := b_noLog) rfl)
  isLink := of_decide_eq_true (c.ext 33 (f := b_isLink) rfl)
  clF := He.eqO_ok (c.ext 34 (f := b_clF) rfl)
  spF := He.eqO_ok (c.ext 29 (f := b_spF) rfl)
  tkF := of_decide_eq_true (c.ext 30 (f := b_tkF) rfl)
  mrF := of_decide_eq_true (c.ext 35 (f := b_mrF) rfl)
  isF := of_decide_eq_true (c.ext 36 (f := b_isF) rfl)
end
theorem facts_law {P : Program} {w : World} {K : Frag} {h : Heap} {mg : Str → Option Value} {f : Addr} (hp : P.main.file = "/claim/cut.py") (hs : (P.main.scope.names.lookup ("super" : Str)).isSome = false) (X : K.In h) (G : h.Ns mainGlobals mg) (hfa : mg ("law" : Str) = some (.ref f)) (c : SaysK K) :
    ∃ fd : FuncData, (∀ (s : Shared) (v : Value), BindsTo s fd ⟨[v], []⟩ [("_law_script", v)]) ∧ ∀ base : Heap, K.In base → base.Ns mainGlobals mg → FnOk P w K mg base CX0 11 f fd ["_law_script"] (sp_law K) := by
  have T := tx_of X G c
  have B : Bx P K mg := bx_of hp hs X G c
  have e := hfa.symm.trans T.g_law
  cases e
  obtain ⟨fd, F⟩ := T.F_law.ex
  have b := FunD.bindsA (ps := ["_law_script"]) F bd_law
  exact ⟨fd, fun s v => b s [v] rfl, fun base _ _ => ok_law T B (He5.fun_of F)⟩
end Lw
set_option Elab.async false
set_option linter.all false
set_option maxRecDepth 100000
set_option maxHeartbeats 0
open PySem PySem.W PySem.Calls PyProof.Rows
theorem PySem.Challenge.cw_latelink_k28_whole_trees_and_ways_back_holds : PySem.Challenge.rw_latelink_k28_whole_trees_and_ways_back.Holds := by
  w_on; o_law
  refine HandSHeadRun.head_imp (r := OpenLaw.row PySem.Challenge.rw_latelink_k28_whole_trees_and_ways_back) (q := view (OpenLaw.row PySem.Challenge.rw_latelink_k28_whole_trees_and_ways_back).prog [0, 60]) (H := Lw.hookK) (ob := Lw.hob) (M := 8000) (loose := Lw.hnames) (d := HandSHeadRun.topDef (OpenLaw.row PySem.Challenge.rw_latelink_k28_whole_trees_and_ways_back).prog 60) (kwd := []) Lw.hob_eq Lw.hrun (by kernel_rfl) (by kernel_rfl) (by kernel_rfl) (by rfl) (by first | assumption | decide +kernel) (by decide +kernel) ⟨rfl, rfl, rfl, rfl, rfl, by decide +kernel⟩ ?hw ?hc
  case hw => w_witness2
  case hc =>
    refine L2.walk_ofE (l := PySem.Challenge.rw_latelink_k28_whole_trees_and_ways_back) (n := 63) (k := 11) (x := "_law_script") (CX := L2.CX0) rfl (by decide) (by kernel_rfl) ⟨rfl, by decide, by decide⟩ ?F (fun _ _ _ _ z => z)
    intro w mg fa h Y G hmg0
    obtain ⟨K, KX, c⟩ := Y
    have hmg : mg ("law" : PySem.Str) = some (.ref fa) := by
      have e : (HandSHeadRun.topDef (OpenLaw.row PySem.Challenge.rw_latelink_k28_whole_trees_and_ways_back).prog 60).name = ("law" : PySem.Str) := by kernel_rfl
      rw [← e]
      exact hmg0
    obtain ⟨fd, hb, hF⟩ := Lw.facts_law (P := (PySem.Challenge.rw_latelink_k28_whole_trees_and_ways_back).prog) (w := w) (by kernel_rfl) (by kernel_rfl) KX G hmg c
    exact ⟨K, fd, Lw.sp_law K, KX, hb, fun H a ns hl _ hS => ⟨a, ns, rfl, hS, Nat.le_trans hl (by decide), fun _ => rfl⟩, hF⟩
