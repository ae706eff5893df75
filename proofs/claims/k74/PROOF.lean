import PyProof.Rows.All
import Wide.All
import OpenK.AllK
import Wide.FinOn
import KE.KExcIs
import HandS.IsInst
import HandS.ExcIs
import HandS.ExcField
import HandS.SetFor
import HandS.More
import HandS.DictComp
import HandS.Style
import HandS.Finally
import HandS.SortRule
import HandS.SortKw
import HandS.Wide
import HandS.Evl
import HandS.DeepEq
import HandS.Deep
import HandS.Zip
import KE.KStateDown
import HandS.ForMost
import HandS.Exc
import HandS.TryOnly
import HandS.WordsExc
import HandS.ExcOwn
import HandS.ExcInit
import HandS.Codes
import HandS.Lambda
import HandS.Defaults
import HandS.Head0
import HandS.Head1
import HandS.Head2
import HandS.HeadEnd
import HandS.HeadHook1
import HandS.HeadHook2
import HandS.HeadHook3
import HandS.HeadHook4
import HandS.EndTab
import HandS.HeadWalk
import HandS.Head4
import KE.KExcSuper
import HandS.Ends
import KE.DatumOrd
import PySem.Challenge.RW_busyleaves_k74_whole_machines_at_work
set_option Elab.async false
set_option linter.all false
set_option maxRecDepth 100000
set_option maxHeartbeats 4000000
/-! NoRoom(why, name): made by super().__init__(why); self.name = name. -/
namespace PySem
namespace K74R
open PySem.W PySem.Calls PyProof.Rows PySem.HandSPX
/-! ### the text of __init__ -/
def rA (q1 q2 q3 : Pos) (d : PySem.Expr) : Arguments := { posonlyargs := [], args := [{ arg := "self", annotation := none, pos := q1 }, { arg := "why", annotation := none, pos := q2 }, { arg := "name", annotation := none, pos := q3 }], vararg := none, kwonlyargs := [], kw_defaults := [], kwarg := none, defaults := [d] }
def rP : List Pos := [⟨25, 8, 25, 13⟩, ⟨25, 8, 25, 15⟩, ⟨25, 8, 25, 24⟩, ⟨25, 25, 25, 28⟩, ⟨25, 8, 25, 29⟩, ⟨25, 8, 25, 29⟩]
def rB (r6 r7 r8 r9 : Pos) : List Stmt := [.Expr (.Call (.Attribute (.Call (.Name "super" ⟨25, 8, 25, 13⟩) [] [] ⟨25, 8, 25, 15⟩) "__init__" ⟨25, 8, 25, 24⟩) [.Name "why" ⟨25, 25, 25, 28⟩] [] ⟨25, 8, 25, 29⟩) ⟨25, 8, 25, 29⟩, .Assign [.Attribute (.Name "self" r6) "name" r7] (.Name "name" r8) r9]
def rS : Scope := { kind := .function, names := [(PySem.Str.ofString "self", .local), (PySem.Str.ofString "why", .local), (PySem.Str.ofString "name", .local), (PySem.Str.ofString "__class__", .free), (PySem.Str.ofString "super", .globalImplicit)], isGenerator := false, isCoroutine := false, more := [] }
def cellB (K : Frag) (C cc : Addr) : Bool := match K.lookup cc with
  | some ⟨_, _, .cell (some (.ref D)), _⟩ => decide (D = C)
  | _ => false
def codeB (K : Frag) (cda : Addr) (file : Str) : Bool := match K.lookup cda with
  | some ⟨_, _, .fields vs, _⟩ => (match (vs[2]? : Option Value) with
    | some (Value.str f _) => file == f
    | _ => false)
  | _ => false
def tup1B (K : Frag) (T : Addr) : Bool := match K.lookup T with
  | some ⟨_, _, .seq its _, _⟩ => decide (its.size = 1)
  | _ => false
def fnB (K : Frag) (C : Addr) (file : Str) : FuncData → Bool
  | { name := n1, qualname := n2, params := { posonlyargs := [], args := [⟨a1, none, _⟩, ⟨a2, none, _⟩, ⟨a3, none, _⟩], vararg := none, kwonlyargs := [], kw_defaults := [], kwarg := none, defaults := [_] },
      body := .stmts [.Expr (.Call (.Attribute (.Call (.Name b1 r0) [] [] r1) b2 r2) [.Name b3 r3] [] r4) r5, .Assign [.Attribute (.Name b4 _) b5 _] (.Name b6 _) _], scope := sc, globals := gl, closure := [(c1, cc)], defaults := .ref T, kwdefaults := _, doc := _, pyModule := _, annotations := _, code := .ref cda, closureTuple := _, builtins := bl } =>
    decide ([n1, n2, a1, a2, a3, b1, b2] = (["__init__", "NoRoom.__init__", "self", "why", "name", "super", "__init__"] : List PySem.Str)) && (decide ([b3, b4, b5, b6, c1] = (["why", "self", "name", "name", "__class__"] : List PySem.Str)) && (decide (gl = mainGlobals) && (decide (bl = builtinsNs) && (decide (sc = rS) && (decide ([r0, r1, r2, r3, r4, r5] = rP) && (cellB K C cc && (codeB K cda file && (codeIn K (.ref cda) "NoRoom.__init__" && tup1B K T))))))))
  | _ => false
def initB (K : Frag) (C fI : Addr) (file : Str) : Bool := match K.lookup fI with
  | some ⟨_, _, .func fd, _⟩ => fnB K C file fd
  | _ => false
def roomB (K : Frag) (C fI : Addr) (file : Str) : Bool := excInitIn K C He.veBase "ValueError.__new__" && ((clsIn K C).any (fun cd => refsVE cd.mro && cd.hasDict) && (He.eqO (findIn K (.ref C) "__setattr__") (some (some (.builtin "object.__setattr__"))) && (He.eqO (findIn K (.ref C) "name") (some none) &&
  (He.eqO (findIn K (.ref C) "__init__") (some (some (.ref fI))) && (decide (typeIn K (.ref fI) = some (.type "function")) && (He.eqO (ks_superIn K C C "__init__") (some (some (.builtin "ValueError.__init__"))) && (decide (subIn K (.ref C) (.type "ValueError") = some true) && (decide (mroIn K C (.ref C) = some true) && initB K C fI file))))))))
/-- what the written part says of __init__ -/
structure FnR (K : Frag) (C fI : Addr) (file : Str) : Prop where
  ex : ∃ (oc : Value) (od : Option Addr) (T : Addr) (kV doc pm : Value) (an : Option Addr) (cda : Addr) (ct : Value) (osl : Array (Option Value)) (cc : Addr) (q1 q2 q3 r6 r7 r8 r9 : Pos) (d : PySem.Expr),
    K.lookup fI = some ⟨oc, od, .func (ksFn "__init__" "NoRoom.__init__" (rA q1 q2 q3 d) (rB r6 r7 r8 r9) rS (.ref T) kV doc pm an (.ref cda) ct cc), osl⟩ ∧ cellB K C cc = true ∧ codeB K cda file = true ∧ codeIn K (.ref cda) "NoRoom.__init__" = true ∧ tup1B K T = true
/-- no third-party class was loaded -/
def StOk (h : Heap) : Prop := ∃ o, h.get? cStatics = some o ∧ nsIn [(cStatics, o)] cStatics "thirdparty.any" = some none
def stB (g : Addr → Option Obj) : Bool := match g cStatics with
  | some o => He.eqO (nsIn [(cStatics, o)] cStatics "thirdparty.any") (some none)
  | none => false
theorem stB_ok {h : Heap} (e : stB h.get? = true) : StOk h := by
  unfold stB at e
  cases q : h.get? cStatics with
  | none =>
    rw [q] at e
    cases e
  | some o =>
    rw [q] at e
    exact ⟨o, q, He.eqO_ok e⟩
end K74R
end PySem
set_option Elab.async false
set_option linter.all false
set_option maxRecDepth 100000
set_option maxHeartbeats 0
namespace K74
open PySem PySem.Spec PyProof.Rows L2
/-! ### the text by places -/
def top (i : Nat) : Stmt := PySem.Challenge.pw_busyleaves_k74_whole_machines_at_work.main.body.getD i (.Pass ⟨0, 0, 0, 0⟩)
abbrev s_is_whole : Stmt := top 11
abbrev s_divisor_of : Stmt := top 12
abbrev s_fraction_of : Stmt := top 13
abbrev s_is_fraction : Stmt := top 14
abbrev s_minus_of : Stmt := top 15
abbrev s_times_of : Stmt := top 16
abbrev s_over_of : Stmt := top 17
abbrev s_is_below : Stmt := top 18
abbrev s_floor_of : Stmt := top 19
abbrev s_is_name : Stmt := top 23
abbrev s_is_cap : Stmt := top 24
abbrev s_row_fits : Stmt := top 25
abbrev s_check_tree : Stmt := top 27
abbrev s_all_below : Stmt := top 28
abbrev s_check_leaf : Stmt := top 30
abbrev s_check_place : Stmt := top 31
abbrev s_check_limits : Stmt := top 33
abbrev s_check_pages : Stmt := top 34
abbrev s_rounded_parts : Stmt := top 35
abbrev s_l_cell_at : Stmt := top 38
abbrev s_l_mixed : Stmt := top 39
abbrev s_l_source : Stmt := top 40
abbrev s_l_next : Stmt := top 41
abbrev s_l_divisor : Stmt := top 42
abbrev s_l_ratio : Stmt := top 43
abbrev s_l_part : Stmt := top 44
abbrev s_l_rows : Stmt := top 45
abbrev s_l_leaves : Stmt := top 46
abbrev s_l_path : Stmt := top 47
abbrev s_l_below : Stmt := top 48
abbrev s_l_charged : Stmt := top 49
abbrev s_l_safe_part : Stmt := top 50
abbrev s_l_free : Stmt := top 51
abbrev s_l_rounded : Stmt := top 52
abbrev s_l_lost : Stmt := top 53
abbrev s_l_many : Stmt := top 54
abbrev s_l_kept_pages : Stmt := top 55
abbrev s_l_way : Stmt := top 56
abbrev s_l_limits : Stmt := top 57
abbrev s_l_most : Stmt := top 58
abbrev s_l_due_room : Stmt := top 59
abbrev s_l_took : Stmt := top 60
abbrev s_l_spare : Stmt := top 61
abbrev s_l_said : Stmt := top 62
abbrev s_l_running : Stmt := top 63
abbrev s_l_started : Stmt := top 64
abbrev s_l_taken : Stmt := top 65
abbrev s_l_given : Stmt := top 66
abbrev s_l_back : Stmt := top 67
abbrev s_l_moved : Stmt := top 68
abbrev s_l_step_right : Stmt := top 69
abbrev s_l_stands : Stmt := top 70
abbrev s_l_begun : Stmt := top 71
abbrev s_l_right : Stmt := top 72
abbrev s_law : Stmt := top 73
abbrev s_NoTree_init : Stmt := inClass (top 8) 0
abbrev s_NoRoom_init : Stmt := inClass (top 9) 0
abbrev s_Tree_init : Stmt := inClass (top 26) 0
abbrev s_Tree_len : Stmt := inClass (top 26) 1
abbrev s_Tree_contains : Stmt := inClass (top 26) 2
abbrev s_Tree_eq : Stmt := inClass (top 26) 3
abbrev s_Tree_rows : Stmt := inClass (top 26) 4
abbrev s_Tree_leaves : Stmt := inClass (top 26) 5
abbrev s_Tree_row_of : Stmt := inClass (top 26) 6
abbrev s_Tree_children : Stmt := inClass (top 26) 7
abbrev s_Tree_parent : Stmt := inClass (top 26) 8
abbrev s_Tree_weight : Stmt := inClass (top 26) 9
abbrev s_Tree_cap : Stmt := inClass (top 26) 10
abbrev s_Tree_path : Stmt := inClass (top 26) 11
abbrev s_Machine_init : Stmt := inClass (top 36) 0
abbrev s_Machine_way_up : Stmt := inClass (top 36) 1
abbrev s_Machine_start : Stmt := inClass (top 36) 2
abbrev s_Machine_check_task : Stmt := inClass (top 36) 3
abbrev s_Machine_stop : Stmt := inClass (top 36) 4
abbrev s_Machine_move : Stmt := inClass (top 36) 5
abbrev s_Machine_running : Stmt := inClass (top 36) 6
abbrev s_Machine_charged : Stmt := inClass (top 36) 7
abbrev s_Machine_spare : Stmt := inClass (top 36) 8
abbrev s_Machine_take : Stmt := inClass (top 36) 9
abbrev s_Machine_give : Stmt := inClass (top 36) 10
abbrev s_Machine_free_below : Stmt := inClass (top 36) 11
abbrev s_Machine_take_back : Stmt := inClass (top 36) 12
/-! ### what the head tells of each def -/
def d_is_whole : He.DefD := ⟨("is_whole", none), "is_whole", "is_whole", defArgs s_is_whole, defBody s_is_whole, defScope s_is_whole, [.non], []⟩
def d_divisor_of : He.DefD := ⟨("divisor_of", none), "divisor_of", "divisor_of", defArgs s_divisor_of, defBody s_divisor_of, defScope s_divisor_of, [], []⟩
def d_fraction_of : He.DefD := ⟨("fraction_of", none), "fraction_of", "fraction_of", defArgs s_fraction_of, defBody s_fraction_of, defScope s_fraction_of, [.int 1], []⟩
def d_is_fraction : He.DefD := ⟨("is_fraction", none), "is_fraction", "is_fraction", defArgs s_is_fraction, defBody s_is_fraction, defScope s_is_fraction, [], []⟩
def d_minus_of : He.DefD := ⟨("minus_of", none), "minus_of", "minus_of", defArgs s_minus_of, defBody s_minus_of, defScope s_minus_of, [], []⟩
def d_times_of : He.DefD := ⟨("times_of", none), "times_of", "times_of", defArgs s_times_of, defBody s_times_of, defScope s_times_of, [], []⟩
def d_over_of : He.DefD := ⟨("over_of", none), "over_of", "over_of", defArgs s_over_of, defBody s_over_of, defScope s_over_of, [], []⟩
def d_is_below : He.DefD := ⟨("is_below", none), "is_below", "is_below", defArgs s_is_below, defBody s_is_below, defScope s_is_below, [], []⟩
def d_floor_of : He.DefD := ⟨("floor_of", none), "floor_of", "floor_of", defArgs s_floor_of, defBody s_floor_of, defScope s_floor_of, [], []⟩
def d_is_name : He.DefD := ⟨("is_name", none), "is_name", "is_name", defArgs s_is_name, defBody s_is_name, defScope s_is_name, [], []⟩
def d_is_cap : He.DefD := ⟨("is_cap", none), "is_cap", "is_cap", defArgs s_is_cap, defBody s_is_cap, defScope s_is_cap, [], []⟩
def d_row_fits : He.DefD := ⟨("row_fits", none), "row_fits", "row_fits", defArgs s_row_fits, defBody s_row_fits, defScope s_row_fits, [], []⟩
def d_check_tree : He.DefD := ⟨("check_tree", none), "check_tree", "check_tree", defArgs s_check_tree, defBody s_check_tree, defScope s_check_tree, [], []⟩
def d_all_below : He.DefD := ⟨("all_below", none), "all_below", "all_below", defArgs s_all_below, defBody s_all_below, defScope s_all_below, [], []⟩
def d_check_leaf : He.DefD := ⟨("check_leaf", none), "check_leaf", "check_leaf", defArgs s_check_leaf, defBody s_check_leaf, defScope s_check_leaf, [], []⟩
def d_check_place : He.DefD := ⟨("check_place", none), "check_place", "check_place", defArgs s_check_place, defBody s_check_place, defScope s_check_place, [], []⟩
def d_check_limits : He.DefD := ⟨("check_limits", none), "check_limits", "check_limits", defArgs s_check_limits, defBody s_check_limits, defScope s_check_limits, [], []⟩
def d_check_pages : He.DefD := ⟨("check_pages", none), "check_pages", "check_pages", defArgs s_check_pages, defBody s_check_pages, defScope s_check_pages, [], []⟩
def d_rounded_parts : He.DefD := ⟨("rounded_parts", none), "rounded_parts", "rounded_parts", defArgs s_rounded_parts, defBody s_rounded_parts, defScope s_rounded_parts, [], []⟩
def d_l_cell_at : He.DefD := ⟨("_law_cell_at", none), "_law_cell_at", "_law_cell_at", defArgs s_l_cell_at, defBody s_l_cell_at, defScope s_l_cell_at, [], []⟩
def d_l_mixed : He.DefD := ⟨("_law_mixed", none), "_law_mixed", "_law_mixed", defArgs s_l_mixed, defBody s_l_mixed, defScope s_l_mixed, [], []⟩
def d_l_source : He.DefD := ⟨("_law_source", none), "_law_source", "_law_source", defArgs s_l_source, defBody s_l_source, defScope s_l_source, [], []⟩
def d_l_next : He.DefD := ⟨("_law_next", none), "_law_next", "_law_next", defArgs s_l_next, defBody s_l_next, defScope s_l_next, [], []⟩
def d_l_divisor : He.DefD := ⟨("_law_divisor", none), "_law_divisor", "_law_divisor", defArgs s_l_divisor, defBody s_l_divisor, defScope s_l_divisor, [], []⟩
def d_l_ratio : He.DefD := ⟨("_law_ratio", none), "_law_ratio", "_law_ratio", defArgs s_l_ratio, defBody s_l_ratio, defScope s_l_ratio, [], []⟩
def d_l_part : He.DefD := ⟨("_law_part", none), "_law_part", "_law_part", defArgs s_l_part, defBody s_l_part, defScope s_l_part, [], []⟩
def d_l_rows : He.DefD := ⟨("_law_rows", none), "_law_rows", "_law_rows", defArgs s_l_rows, defBody s_l_rows, defScope s_l_rows, [], []⟩
def d_l_leaves : He.DefD := ⟨("_law_leaves", none), "_law_leaves", "_law_leaves", defArgs s_l_leaves, defBody s_l_leaves, defScope s_l_leaves, [], []⟩
def d_l_path : He.DefD := ⟨("_law_path", none), "_law_path", "_law_path", defArgs s_l_path, defBody s_l_path, defScope s_l_path, [], []⟩
def d_l_below : He.DefD := ⟨("_law_below", none), "_law_below", "_law_below", defArgs s_l_below, defBody s_l_below, defScope s_l_below, [], []⟩
def d_l_charged : He.DefD := ⟨("_law_charged", none), "_law_charged", "_law_charged", defArgs s_l_charged, defBody s_l_charged, defScope s_l_charged, [], []⟩
def d_l_safe_part : He.DefD := ⟨("_law_safe_part", none), "_law_safe_part", "_law_safe_part", defArgs s_l_safe_part, defBody s_l_safe_part, defScope s_l_safe_part, [], []⟩
def d_l_free : He.DefD := ⟨("_law_free", none), "_law_free", "_law_free", defArgs s_l_free, defBody s_l_free, defScope s_l_free, [], []⟩
def d_l_rounded : He.DefD := ⟨("_law_rounded", none), "_law_rounded", "_law_rounded", defArgs s_l_rounded, defBody s_l_rounded, defScope s_l_rounded, [], []⟩
def d_l_lost : He.DefD := ⟨("_law_lost", none), "_law_lost", "_law_lost", defArgs s_l_lost, defBody s_l_lost, defScope s_l_lost, [], []⟩
def d_l_many : He.DefD := ⟨("_law_many", none), "_law_many", "_law_many", defArgs s_l_many, defBody s_l_many, defScope s_l_many, [], []⟩
def d_l_kept_pages : He.DefD := ⟨("_law_kept_pages", none), "_law_kept_pages", "_law_kept_pages", defArgs s_l_kept_pages, defBody s_l_kept_pages, defScope s_l_kept_pages, [], []⟩
def d_l_way : He.DefD := ⟨("_law_way", none), "_law_way", "_law_way", defArgs s_l_way, defBody s_l_way, defScope s_l_way, [], []⟩
def d_l_limits : He.DefD := ⟨("_law_limits", none), "_law_limits", "_law_limits", defArgs s_l_limits, defBody s_l_limits, defScope s_l_limits, [], []⟩
def d_l_most : He.DefD := ⟨("_law_most", none), "_law_most", "_law_most", defArgs s_l_most, defBody s_l_most, defScope s_l_most, [], []⟩
def d_l_due_room : He.DefD := ⟨("_law_due_room", none), "_law_due_room", "_law_due_room", defArgs s_l_due_room, defBody s_l_due_room, defScope s_l_due_room, [], []⟩
def d_l_took : He.DefD := ⟨("_law_took", none), "_law_took", "_law_took", defArgs s_l_took, defBody s_l_took, defScope s_l_took, [], []⟩
def d_l_spare : He.DefD := ⟨("_law_spare", none), "_law_spare", "_law_spare", defArgs s_l_spare, defBody s_l_spare, defScope s_l_spare, [], []⟩
def d_l_said : He.DefD := ⟨("_law_said", none), "_law_said", "_law_said", defArgs s_l_said, defBody s_l_said, defScope s_l_said, [], []⟩
def d_l_running : He.DefD := ⟨("_law_running", none), "_law_running", "_law_running", defArgs s_l_running, defBody s_l_running, defScope s_l_running, [], []⟩
def d_l_started : He.DefD := ⟨("_law_started", none), "_law_started", "_law_started", defArgs s_l_started, defBody s_l_started, defScope s_l_started, [], []⟩
def d_l_taken : He.DefD := ⟨("_law_taken", none), "_law_taken", "_law_taken", defArgs s_l_taken, defBody s_l_taken, defScope s_l_taken, [], []⟩
def d_l_given : He.DefD := ⟨("_law_given", none), "_law_given", "_law_given", defArgs s_l_given, defBody s_l_given, defScope s_l_given, [], []⟩
def d_l_back : He.DefD := ⟨("_law_back", none), "_law_back", "_law_back", defArgs s_l_back, defBody s_l_back, defScope s_l_back, [], []⟩
def d_l_moved : He.DefD := ⟨("_law_moved", none), "_law_moved", "_law_moved", defArgs s_l_moved, defBody s_l_moved, defScope s_l_moved, [], []⟩
def d_l_step_right : He.DefD := ⟨("_law_step_right", none), "_law_step_right", "_law_step_right", defArgs s_l_step_right, defBody s_l_step_right, defScope s_l_step_right, [], []⟩
def d_l_stands : He.DefD := ⟨("_law_stands", none), "_law_stands", "_law_stands", defArgs s_l_stands, defBody s_l_stands, defScope s_l_stands, [], []⟩
def d_l_begun : He.DefD := ⟨("_law_begun", none), "_law_begun", "_law_begun", defArgs s_l_begun, defBody s_l_begun, defScope s_l_begun, [], []⟩
def d_l_right : He.DefD := ⟨("_law_right", none), "_law_right", "_law_right", defArgs s_l_right, defBody s_l_right, defScope s_l_right, [], []⟩
def d_law : He.DefD := ⟨("law", none), "law", "law", defArgs s_law, defBody s_law, defScope s_law, [], []⟩
def d_Tree_init : He.DefD := ⟨("Tree", some "__init__"), "__init__", "Tree.__init__", defArgs s_Tree_init, defBody s_Tree_init, defScope s_Tree_init, [], []⟩
def d_Tree_contains : He.DefD := ⟨("Tree", some "__contains__"), "__contains__", "Tree.__contains__", defArgs s_Tree_contains, defBody s_Tree_contains, defScope s_Tree_contains, [], []⟩
def d_Tree_rows : He.DefD := ⟨("Tree", some "rows"), "rows", "Tree.rows", defArgs s_Tree_rows, defBody s_Tree_rows, defScope s_Tree_rows, [], []⟩
def d_Tree_leaves : He.DefD := ⟨("Tree", some "leaves"), "leaves", "Tree.leaves", defArgs s_Tree_leaves, defBody s_Tree_leaves, defScope s_Tree_leaves, [], []⟩
def d_Tree_row_of : He.DefD := ⟨("Tree", some "row_of"), "row_of", "Tree.row_of", defArgs s_Tree_row_of, defBody s_Tree_row_of, defScope s_Tree_row_of, [], []⟩
def d_Tree_children : He.DefD := ⟨("Tree", some "children"), "children", "Tree.children", defArgs s_Tree_children, defBody s_Tree_children, defScope s_Tree_children, [], []⟩
def d_Tree_path : He.DefD := ⟨("Tree", some "path"), "path", "Tree.path", defArgs s_Tree_path, defBody s_Tree_path, defScope s_Tree_path, [], []⟩
def d_Machine_init : He.DefD := ⟨("Machine", some "__init__"), "__init__", "Machine.__init__", defArgs s_Machine_init, defBody s_Machine_init, defScope s_Machine_init, [], []⟩
def d_Machine_way_up : He.DefD := ⟨("Machine", some "way_up"), "way_up", "Machine.way_up", defArgs s_Machine_way_up, defBody s_Machine_way_up, defScope s_Machine_way_up, [], []⟩
def d_Machine_start : He.DefD := ⟨("Machine", some "start"), "start", "Machine.start", defArgs s_Machine_start, defBody s_Machine_start, defScope s_Machine_start, [], []⟩
def d_Machine_check_task : He.DefD := ⟨("Machine", some "check_task"), "check_task", "Machine.check_task", defArgs s_Machine_check_task, defBody s_Machine_check_task, defScope s_Machine_check_task, [], []⟩
def d_Machine_stop : He.DefD := ⟨("Machine", some "stop"), "stop", "Machine.stop", defArgs s_Machine_stop, defBody s_Machine_stop, defScope s_Machine_stop, [], []⟩
def d_Machine_move : He.DefD := ⟨("Machine", some "move"), "move", "Machine.move", defArgs s_Machine_move, defBody s_Machine_move, defScope s_Machine_move, [], []⟩
def d_Machine_running : He.DefD := ⟨("Machine", some "running"), "running", "Machine.running", defArgs s_Machine_running, defBody s_Machine_running, defScope s_Machine_running, [], []⟩
def d_Machine_charged : He.DefD := ⟨("Machine", some "charged"), "charged", "Machine.charged", defArgs s_Machine_charged, defBody s_Machine_charged, defScope s_Machine_charged, [], []⟩
def d_Machine_spare : He.DefD := ⟨("Machine", some "spare"), "spare", "Machine.spare", defArgs s_Machine_spare, defBody s_Machine_spare, defScope s_Machine_spare, [], []⟩
def d_Machine_take : He.DefD := ⟨("Machine", some "take"), "take", "Machine.take", defArgs s_Machine_take, defBody s_Machine_take, defScope s_Machine_take, [], []⟩
def d_Machine_give : He.DefD := ⟨("Machine", some "give"), "give", "Machine.give", defArgs s_Machine_give, defBody s_Machine_give, defScope s_Machine_give, [], []⟩
def d_Machine_free_below : He.DefD := ⟨("Machine", some "free_below"), "free_below", "Machine.free_below", defArgs s_Machine_free_below, defBody s_Machine_free_below, defScope s_Machine_free_below, [], []⟩
def d_Machine_take_back : He.DefD := ⟨("Machine", some "take_back"), "take_back", "Machine.take_back", defArgs s_Machine_take_back, defBody s_Machine_take_back, defScope s_Machine_take_back, [], []⟩
def fnL : List He.DefD := [d_is_whole, d_divisor_of, d_fraction_of, d_is_fraction, d_minus_of, d_times_of, d_over_of, d_is_below, d_floor_of, d_is_name, d_is_cap, d_row_fits, d_check_tree, d_all_below, d_check_leaf, d_check_place, d_check_limits, d_check_pages, d_rounded_parts, d_l_cell_at, d_l_mixed, d_l_source, d_l_next, d_l_divisor, d_l_ratio, d_l_part, d_l_rows, d_l_leaves, d_l_path, d_l_below, d_l_charged, d_l_safe_part, d_l_free, d_l_rounded, d_l_lost, d_l_many, d_l_kept_pages, d_l_way, d_l_limits, d_l_most, d_l_due_room, d_l_took, d_l_spare, d_l_said, d_l_running, d_l_started, d_l_taken, d_l_given, d_l_back, d_l_moved, d_l_step_right, d_l_stands, d_l_begun, d_l_right, d_law, d_Tree_init, d_Tree_contains, d_Tree_rows, d_Tree_leaves, d_Tree_row_of, d_Tree_children, d_Tree_path, d_Machine_init, d_Machine_way_up, d_Machine_start, d_Machine_check_task, d_Machine_stop, d_Machine_move, d_Machine_running, d_Machine_charged, d_Machine_spare, d_Machine_take, d_Machine_give, d_Machine_free_below, d_Machine_take_back]
def faL : List He.Fa := [.glo "is_whole",
  .glo "divisor_of",
  .glo "fraction_of",
  .glo "is_fraction",
  .glo "minus_of",
  .glo "times_of",
  .glo "over_of",
  .glo "is_below",
  .glo "floor_of",
  .glo "is_name",
  .glo "is_cap",
  .glo "row_fits",
  .glo "check_tree",
  .glo "all_below",
  .glo "check_leaf",
  .glo "check_place",
  .glo "check_limits",
  .glo "check_pages",
  .glo "rounded_parts",
  .glo "_law_cell_at",
  .glo "_law_mixed",
  .glo "_law_source",
  .glo "_law_next",
  .glo "_law_divisor",
  .glo "_law_ratio",
  .glo "_law_part",
  .glo "_law_rows",
  .glo "_law_leaves",
  .glo "_law_path",
  .glo "_law_below",
  .glo "_law_charged",
  .glo "_law_safe_part",
  .glo "_law_free",
  .glo "_law_rounded",
  .glo "_law_lost",
  .glo "_law_many",
  .glo "_law_kept_pages",
  .glo "_law_way",
  .glo "_law_limits",
  .glo "_law_most",
  .glo "_law_due_room",
  .glo "_law_took",
  .glo "_law_spare",
  .glo "_law_said",
  .glo "_law_running",
  .glo "_law_started",
  .glo "_law_taken",
  .glo "_law_given",
  .glo "_law_back",
  .glo "_law_moved",
  .glo "_law_step_right",
  .glo "_law_stands",
  .glo "_law_begun",
  .glo "_law_right",
  .glo "law",
  .glo "GroupError",
  .glo "NoName",
  .glo "NoLeaf",
  .glo "NoLimit",
  .glo "NoTask",
  .glo "NoPages",
  .glo "NoTree",
  .glo "NoRoom",
  .glo "Tree",
  .glo "Machine",
  .free "isinstance",
  .free "len",
  .free "all",
  .free "sum",
  .free "min",
  .free "max",
  .free "range",
  .free "dict",
  .free "list",
  .free "sorted",
  .free "enumerate",
  .free "zip",
  .free "int",
  .free "abs",
  .free "str",
  .free "bool",
  .free "tuple",
  .free "ValueError",
  .free "super",
  .int "MOST_SIGNS" 8,
  .str "LETTERS" "abcdefghijklmnopqrstuvwxyz",
  .cls "Tree",
  .mkr "Tree",
  .noat "Tree" "lines",
  .noat "Tree" "by_name",
  .noat "Tree" "below",
  .cls "Machine",
  .mkr "Machine",
  .noat "Machine" "tree",
  .noat "Machine" "most_tasks",
  .noat "Machine" "most_pages",
  .noat "Machine" "safe",
  .noat "Machine" "places",
  .noat "Machine" "many",
  .noat "Machine" "sizes",
  .meth "Tree" "__contains__",
  .meth "Tree" "rows",
  .meth "Tree" "leaves",
  .meth "Tree" "row_of",
  .meth "Tree" "children",
  .meth "Tree" "path",
  .meth "Machine" "way_up",
  .meth "Machine" "start",
  .meth "Machine" "check_task",
  .meth "Machine" "stop",
  .meth "Machine" "move",
  .meth "Machine" "running",
  .meth "Machine" "charged",
  .meth "Machine" "spare",
  .meth "Machine" "take",
  .meth "Machine" "give",
  .meth "Machine" "free_below",
  .meth "Machine" "take_back",
  .exc "NoPages",
  .exc "NoTask",
  .exm "NoRoom" "GroupError" true,
  .keep "NoRoom",
  .exm "NoPages" "GroupError" true,
  .keep "NoPages",
  .exm "NoTask" "GroupError" true,
  .keep "NoTask"]
def loose0 : List PySem.Str := ["_wall", "GroupError", "NoName", "NoLeaf", "NoLimit", "NoTask", "NoPages", "NoTree", "NoRoom", "is_whole", "divisor_of", "fraction_of"]
def loose1 : List PySem.Str := ["is_fraction", "minus_of", "times_of", "over_of", "is_below", "floor_of", "MOST_SIGNS", "LETTERS", "is_name", "is_cap", "row_fits", "Tree"]
def loose2 : List PySem.Str := ["check_tree", "all_below", "check_leaf", "check_place", "check_limits", "check_pages", "rounded_parts", "Machine", "_law_cell_at", "_law_mixed", "_law_source", "_law_next"]
def loose3 : List PySem.Str := ["_law_divisor", "_law_ratio", "_law_part", "_law_rows", "_law_leaves", "_law_path", "_law_below", "_law_charged", "_law_safe_part", "_law_free", "_law_rounded", "_law_lost"]
def loose4 : List PySem.Str := ["_law_many", "_law_kept_pages", "_law_way", "_law_limits", "_law_most", "_law_due_room", "_law_took", "_law_spare", "_law_said", "_law_running", "_law_started", "_law_taken"]
def loose5 : List PySem.Str := ["_law_given", "_law_back", "_law_moved", "_law_step_right", "_law_stands", "_law_begun", "_law_right"]
def looseL : List PySem.Str := loose0 ++ loose1 ++ loose2 ++ loose3 ++ loose4 ++ loose5
abbrev Rw : PySem.W.OpenRow := PySem.W.OpenLaw.row PySem.Challenge.rw_busyleaves_k74_whole_machines_at_work
abbrev tfL : List He.Defn := [("_law_step_right", none)]
def insB (K : PySem.W.Frag) (x : PySem.Str) : Bool := He.eqO (PySem.W.findIn K (.ref (He.ga K x)) "__class__") (some (some (.builtin "object.__class__"))) && (He.eqO (PySem.W.specialIn K (.builtin "object.__class__") "__get__") (some (some (.builtin "getset_descriptor.__get__"))) &&
  (decide (PySem.W.takesIn K (.builtin "object.__class__") = some true) && (decide (PySem.W.mroIn K (He.ga K x) (.type "object") = some true) && decide (PySem.W.kitOne K (.ref (He.ga K x)) (.ref (He.ga K x)) = some true))))
def excB (K : PySem.W.Frag) (x : PySem.Str) : Bool := He.eqO (PySem.W.findIn K (.ref (He.ga K x)) "__getattribute__") (some (some (.builtin "BaseException.__getattribute__"))) && (He.eqO (PySem.W.findIn K (.ref (He.ga K x)) "__getattr__") (some none) &&
  (decide (PySem.W.subIn K (.ref (He.ga K x)) (.type "BaseException") = some true) && (PySem.W.hasDictIn K (He.ga K x) && (insB K x && decide (PySem.W.kitOne K (.ref (He.ga K x)) (.type "ValueError") = some true)))))
def kitB (K : PySem.W.Frag) (x y : PySem.Str) (b : Bool) : Bool := decide (PySem.W.kitOne K (.ref (He.ga K x)) (.ref (He.ga K y)) = some b)
def exL (K : PySem.W.Frag) : Bool := insB K "Tree" && (excB K "NoRoom" && (excB K "NoPages" && (excB K "NoTask" &&
  (kitB K "NoRoom" "NoLeaf" false && (kitB K "NoRoom" "NoLimit" false && (kitB K "NoRoom" "NoName" false && (kitB K "NoRoom" "NoPages" false && (kitB K "NoRoom" "NoTask" false &&
  (kitB K "NoPages" "NoLeaf" false && (kitB K "NoPages" "NoLimit" false && (kitB K "NoPages" "NoName" false && (kitB K "NoPages" "NoRoom" false && (kitB K "NoPages" "NoTask" false &&
  (kitB K "NoTask" "NoLeaf" false && (kitB K "NoTask" "NoLimit" false && (kitB K "NoTask" "NoName" false && (kitB K "NoTask" "NoRoom" false && (kitB K "NoTask" "NoPages" false && (PySem.K74R.roomB K (He.ga K "NoRoom") (He.ma K (He.ga K "NoRoom") "__init__") (Rw.prog.main.file : PySem.Str) && decide (PySem.W.typeIn K (.ref (He.ga K "NoRoom")) = some (.type "type")))))))))))))))))))))
abbrev hk0 : PySem.W.Hook := He.hookX 4 faL fnL [] tfL exL
def hkL : PySem.W.Hook where
  α := He.AlX × Bool
  obs := fun s => (He.obsX 4 faL fnL [] tfL exL s.heap.get?, PySem.K74R.stB s.heap.get?)
  val := fun w => (He.valX fnL [] w, true)
  says := fun w h => hk0.says w h ∧ PySem.K74R.StOk h
  of := fun w s e => ⟨hk0.of w s (congrArg (fun z : He.AlX × Bool => z.1) e), PySem.K74R.stB_ok (congrArg (fun z : He.AlX × Bool => z.2) e)⟩
  keeps := fun w h h' z k => ⟨hk0.keeps w h h' z.1 k, z.2.imp fun _ q => ⟨k _ _ q.1, q.2⟩⟩
def obL (s : PySem.W.SharedT) : He.AlX × Bool := (He.obsX 4 faL fnL [] tfL exL (HandSHeadRun.getT s), PySem.K74R.stB (HandSHeadRun.getT s))
theorem obL_eq (s : PySem.W.SharedT) : obL s = hkL.obs s.abs := by
  have e : HandSHeadRun.getT s = s.abs.heap.get? := funext (HandSHeadRun.getT_eq s)
  unfold obL
  rw [e]
  rfl
theorem runL (w : World) : HandSHeadRun.RunEq Rw (PySem.W.view Rw.prog [73]) hkL obL 20000 looseL w := by
  intro os
  kernel_rfl
end K74
set_option Elab.async false
set_option linter.all false
set_option maxRecDepth 100000
set_option maxHeartbeats 4000000
namespace K74
open PySem PySem.Spec PyProof.Rows L2
theorem ifT {c : Bool} {A B : Prop} (hc : c = true) (h : A) : if c = true then A else B := by
  rw [if_pos hc]
  exact h
theorem ifF {c : Bool} {A B : Prop} (hc : c = false) (h : B) : if c = true then A else B := by
  rw [hc, if_neg Bool.false_ne_true]
  exact h
theorem ifB {c : Bool} {A B : Prop} (h1 : c = true → A) (h2 : c = false → B) : if c = true then A else B := by
  cases c with
  | true => exact ifT rfl (h1 rfl)
  | false => exact ifF rfl (h2 rfl)
/-- what the walk leans on: the head's facts -/
structure Tx (K : PySem.W.Frag) (mg : Str → Option Value) : Prop where
  kin : ∃ h : Heap, K.In h ∧ h.Ns mainGlobals mg
  says : He.SaysD faL fnL K
  ext : exL K = true
section
variable {K : PySem.W.Frag} {mg : Str → Option Value}
theorem Tx.glo (T : Tx K mg) (i : Nat) {x : Str} (h : faL[i]? = some (.glo x) := by rfl) : mg x = some (.ref (He.ga K x)) := by
  obtain ⟨hp, X, G⟩ := T.kin
  exact He.glo_ok X G (T.says.fact i h)
theorem Tx.free (T : Tx K mg) (i : Nat) {x : Str} (h : faL[i]? = some (.free x) := by rfl) : mg x = none := by
  obtain ⟨hp, X, G⟩ := T.kin
  exact He.free_ok X G (T.says.fact i h)
end
/-- a def of the text keeps a promise, by at most level k -/
def Has (P : Program) (w : World) (K : PySem.W.Frag) (mg : Str → Option Value) (base : Heap) (CX : CXT) (k : Nat) (d : He.DefD) (ps : List Str) (sp : Sp) : Prop :=
  ∃ fd, FnOk P w K mg base CX k (He.fAd K d.at_) fd ps sp ∧ L2.Binds K fd ps [] ∧ PySem.W.keepIn K (.ref (He.fAd K d.at_)) = true
section
variable {P : Program} {w : World} {K : PySem.W.Frag} {mg : Str → Option Value} {base : Heap} {CX : CXT} {k j : Nat} {d : He.DefD} {ps N : List Str} {sp sp' : Sp}
theorem Has.mono (c : Has P w K mg base CX k d ps sp) (h : k ≤ j) : Has P w K mg base CX j d ps sp := by
  obtain ⟨fd, F, b, kp⟩ := c
  exact ⟨fd, F.mono h, b, kp⟩
theorem Has.imp (c : Has P w K mg base CX k d ps sp) (h : ∀ vs H Q E, sp' vs H Q E → sp vs H Q E) : Has P w K mg base CX k d ps sp' := by
  obtain ⟨fd, F, b, kp⟩ := c
  exact ⟨fd, F.imp h, b, kp⟩
/-- a def by its body -/
theorem has_of (T : Tx K mg) (i : Nat) (hi : fnL[i]? = some d) (S : FnScope N ps d.scope)
    (hb : ∀ fd, FunD K d.name d.qual d.params d.body d.scope (d.dvs K) (d.kws K) (He.fAd K d.at_) fd → L2.Binds K fd ps []) (len : ∀ vs H Q E, sp vs H Q E → vs.length = ps.length)
    (hbody : ∀ (cdv : Value) (A : Around) (outer : List Env) (s : Shared) (H : Hp) (vs : List V) (Q : VK) (E : XK), Room k (A.deeper (envOfC d.qual d.scope s.heap.objs.size (He.fAd K d.at_) cdv)) → sp vs H Q E →
      ∃ t, PSs (cxOf CX P w K mg base N d.qual d.scope (He.fAd K d.at_) cdv A outer s H E) d.body t ∧ t { nx := fun _ H' => Q .non H', rt := Q } (start N vs) H) : Has P w K mg base CX (k + 1) d ps sp := by
  obtain ⟨fd, F⟩ := T.says.def_ i hi
  exact ⟨fd, F.ok S len hbody, hb fd F, F.kp⟩
/-- a def that lets no error out -/
theorem has0 (T : Tx K mg) (i : Nat) (hi : fnL[i]? = some d) (S : FnScope N ps d.scope)
    (hb : ∀ fd, FunD K d.name d.qual d.params d.body d.scope (d.dvs K) (d.kws K) (He.fAd K d.at_) fd → L2.Binds K fd ps []) (len : ∀ vs H Q E, sp vs H Q E → vs.length = ps.length)
    (hbody : ∀ (cdv : Value) (A : Around) (outer : List Env) (s : Shared) (H : Hp) (vs : List V) (Q : VK) (E : XK), Room k (A.deeper (envOfC d.qual d.scope s.heap.objs.size (He.fAd K d.at_) cdv)) → sp vs H Q E →
      ∃ t, PSs (cxOf CX0 P w K mg base N d.qual d.scope (He.fAd K d.at_) cdv A outer s H E).nox d.body t ∧ t { nx := fun _ H' => Q .non H', rt := Q } (start N vs) H) : Has P w K mg base CX0 (k + 1) d ps sp :=
  has_of T i hi S hb len fun cdv A outer s H vs Q E hr hsp => by
    obtain ⟨t, h, q⟩ := hbody cdv A outer s H vs Q E hr hsp
    exact ⟨t, h.nox, q⟩
end
section
variable {X : Cx} {CX : CXT} {k j : Nat} {d : He.DefD} {ps : List Str} {sp : Sp} {E : XK} {x m : Str} {C : Addr} {p pos apos : Pos} {e o : Expr} {es : List Expr} {t : TA} {ta : TE}
theorem pe_cl (c : Has X.prog X.w X.K X.mg X.base CX k d ps sp) (hr : Room j X.A) (hk : k ≤ j) (hm : X.mg x = some (.ref (He.fAd X.K d.at_))) (hx : Passes CX X E) (ha : PA X (e :: es) t) (hg : Gl X x := by rfl)
    (hdb : (x == ("__debug__" : Str)) = false := by decide) (he : starEach (e :: es) X.env = (false, eval e X.env) :: starEach es X.env := by rfl) (hpl : (backTo pos (starEach es X.env)).any (·.1) = false := by rfl) :
    PE X (.Call (.Name x p) (e :: es) [] pos) (tCall sp [] E t) := by
  obtain ⟨fd, F, b, kp⟩ := c
  exact pe_call F (hr.mono hk) hg hm kp b .nil hx ha hdb he hpl
theorem pe_ml {pl : Sem Bool} (c : Has X.prog X.w X.K X.mg X.base CX k d ps sp) (hr : Room j X.A) (hk : k ≤ j) (cl : Cls X.K C) (hm : Meth X.K C m (He.fAd X.K d.at_)) (hx : Passes CX X E) (he : PE X o ta) (ha : PA X (e :: es) t)
    (hst : starEach (e :: es) X.env = (false, eval e X.env) :: starEach es X.env := by rfl) (hpl : (backTo pos (starEach es X.env)).any (·.1) = false := by rfl)
    (ht : eval (.Call (.Attribute o m apos) (e :: es) [] pos) X.env = (do
      let ov ← eval o X.env
      standAt apos.atName
      let (f, first) ← holding [ov] (getMethod ov m pl)
      callWith pos f first (backTo pos (starEach (e :: es) X.env)) (backToKw pos (keywordEach [] X.env))) := by rfl) :
    PE X (.Call (.Attribute o m apos) (e :: es) [] pos) (tMeth C m sp [] E ta t) := by
  obtain ⟨fd, F, b, kp⟩ := c
  exact pe_meth (pl := pl) he cl hm F (hr.mono hk) b .nil hx ha hst hpl ht
theorem pe_ml0 {pl : Sem Bool} (c : Has X.prog X.w X.K X.mg X.base CX k d ps sp) (hr : Room j X.A) (hk : k ≤ j) (cl : Cls X.K C) (hm : Meth X.K C m (He.fAd X.K d.at_)) (hx : Passes CX X E) (he : PE X o ta)
    (ht : eval (.Call (.Attribute o m apos) [] [] pos) X.env = (do
      let ov ← eval o X.env
      standAt apos.atName
      let (f, first) ← holding [ov] (getMethod ov m pl)
      callWith pos f first (backTo pos (starEach [] X.env)) (backToKw pos (keywordEach [] X.env))) := by rfl) :
    PE X (.Call (.Attribute o m apos) [] [] pos) (tMeth C m sp [] E ta tNil) := by
  obtain ⟨fd, F, b, kp⟩ := c
  exact pe_meth0 (pl := pl) he cl hm F (hr.mono hk) b .nil hx ht
end
end K74
set_option Elab.async false
set_option linter.all false
set_option maxRecDepth 100000
namespace K74
open PySem PySem.Spec PyProof.Rows L2
section
variable {K : PySem.W.Frag} {mg : Str → Option Value}
theorem Tx.g_is_whole (T : Tx K mg) : mg "is_whole" = some (.ref (He.ga K "is_whole")) := T.glo 0
theorem Tx.g_divisor_of (T : Tx K mg) : mg "divisor_of" = some (.ref (He.ga K "divisor_of")) := T.glo 1
theorem Tx.g_fraction_of (T : Tx K mg) : mg "fraction_of" = some (.ref (He.ga K "fraction_of")) := T.glo 2
theorem Tx.g_is_fraction (T : Tx K mg) : mg "is_fraction" = some (.ref (He.ga K "is_fraction")) := T.glo 3
theorem Tx.g_minus_of (T : Tx K mg) : mg "minus_of" = some (.ref (He.ga K "minus_of")) := T.glo 4
theorem Tx.g_times_of (T : Tx K mg) : mg "times_of" = some (.ref (He.ga K "times_of")) := T.glo 5
theorem Tx.g_over_of (T : Tx K mg) : mg "over_of" = some (.ref (He.ga K "over_of")) := T.glo 6
theorem Tx.g_is_below (T : Tx K mg) : mg "is_below" = some (.ref (He.ga K "is_below")) := T.glo 7
theorem Tx.g_floor_of (T : Tx K mg) : mg "floor_of" = some (.ref (He.ga K "floor_of")) := T.glo 8
theorem Tx.g_is_name (T : Tx K mg) : mg "is_name" = some (.ref (He.ga K "is_name")) := T.glo 9
theorem Tx.g_is_cap (T : Tx K mg) : mg "is_cap" = some (.ref (He.ga K "is_cap")) := T.glo 10
theorem Tx.g_row_fits (T : Tx K mg) : mg "row_fits" = some (.ref (He.ga K "row_fits")) := T.glo 11
theorem Tx.g_check_tree (T : Tx K mg) : mg "check_tree" = some (.ref (He.ga K "check_tree")) := T.glo 12
theorem Tx.g_all_below (T : Tx K mg) : mg "all_below" = some (.ref (He.ga K "all_below")) := T.glo 13
theorem Tx.g_check_leaf (T : Tx K mg) : mg "check_leaf" = some (.ref (He.ga K "check_leaf")) := T.glo 14
theorem Tx.g_check_place (T : Tx K mg) : mg "check_place" = some (.ref (He.ga K "check_place")) := T.glo 15
theorem Tx.g_check_limits (T : Tx K mg) : mg "check_limits" = some (.ref (He.ga K "check_limits")) := T.glo 16
theorem Tx.g_check_pages (T : Tx K mg) : mg "check_pages" = some (.ref (He.ga K "check_pages")) := T.glo 17
theorem Tx.g_rounded_parts (T : Tx K mg) : mg "rounded_parts" = some (.ref (He.ga K "rounded_parts")) := T.glo 18
theorem Tx.g_l_cell_at (T : Tx K mg) : mg "_law_cell_at" = some (.ref (He.ga K "_law_cell_at")) := T.glo 19
theorem Tx.g_l_mixed (T : Tx K mg) : mg "_law_mixed" = some (.ref (He.ga K "_law_mixed")) := T.glo 20
theorem Tx.g_l_source (T : Tx K mg) : mg "_law_source" = some (.ref (He.ga K "_law_source")) := T.glo 21
theorem Tx.g_l_next (T : Tx K mg) : mg "_law_next" = some (.ref (He.ga K "_law_next")) := T.glo 22
theorem Tx.g_l_divisor (T : Tx K mg) : mg "_law_divisor" = some (.ref (He.ga K "_law_divisor")) := T.glo 23
theorem Tx.g_l_ratio (T : Tx K mg) : mg "_law_ratio" = some (.ref (He.ga K "_law_ratio")) := T.glo 24
theorem Tx.g_l_part (T : Tx K mg) : mg "_law_part" = some (.ref (He.ga K "_law_part")) := T.glo 25
theorem Tx.g_l_rows (T : Tx K mg) : mg "_law_rows" = some (.ref (He.ga K "_law_rows")) := T.glo 26
theorem Tx.g_l_leaves (T : Tx K mg) : mg "_law_leaves" = some (.ref (He.ga K "_law_leaves")) := T.glo 27
theorem Tx.g_l_path (T : Tx K mg) : mg "_law_path" = some (.ref (He.ga K "_law_path")) := T.glo 28
theorem Tx.g_l_below (T : Tx K mg) : mg "_law_below" = some (.ref (He.ga K "_law_below")) := T.glo 29
theorem Tx.g_l_charged (T : Tx K mg) : mg "_law_charged" = some (.ref (He.ga K "_law_charged")) := T.glo 30
theorem Tx.g_l_safe_part (T : Tx K mg) : mg "_law_safe_part" = some (.ref (He.ga K "_law_safe_part")) := T.glo 31
theorem Tx.g_l_free (T : Tx K mg) : mg "_law_free" = some (.ref (He.ga K "_law_free")) := T.glo 32
theorem Tx.g_l_rounded (T : Tx K mg) : mg "_law_rounded" = some (.ref (He.ga K "_law_rounded")) := T.glo 33
theorem Tx.g_l_lost (T : Tx K mg) : mg "_law_lost" = some (.ref (He.ga K "_law_lost")) := T.glo 34
theorem Tx.g_l_many (T : Tx K mg) : mg "_law_many" = some (.ref (He.ga K "_law_many")) := T.glo 35
theorem Tx.g_l_kept_pages (T : Tx K mg) : mg "_law_kept_pages" = some (.ref (He.ga K "_law_kept_pages")) := T.glo 36
theorem Tx.g_l_way (T : Tx K mg) : mg "_law_way" = some (.ref (He.ga K "_law_way")) := T.glo 37
theorem Tx.g_l_limits (T : Tx K mg) : mg "_law_limits" = some (.ref (He.ga K "_law_limits")) := T.glo 38
theorem Tx.g_l_most (T : Tx K mg) : mg "_law_most" = some (.ref (He.ga K "_law_most")) := T.glo 39
theorem Tx.g_l_due_room (T : Tx K mg) : mg "_law_due_room" = some (.ref (He.ga K "_law_due_room")) := T.glo 40
theorem Tx.g_l_took (T : Tx K mg) : mg "_law_took" = some (.ref (He.ga K "_law_took")) := T.glo 41
theorem Tx.g_l_spare (T : Tx K mg) : mg "_law_spare" = some (.ref (He.ga K "_law_spare")) := T.glo 42
theorem Tx.g_l_said (T : Tx K mg) : mg "_law_said" = some (.ref (He.ga K "_law_said")) := T.glo 43
theorem Tx.g_l_running (T : Tx K mg) : mg "_law_running" = some (.ref (He.ga K "_law_running")) := T.glo 44
theorem Tx.g_l_started (T : Tx K mg) : mg "_law_started" = some (.ref (He.ga K "_law_started")) := T.glo 45
theorem Tx.g_l_taken (T : Tx K mg) : mg "_law_taken" = some (.ref (He.ga K "_law_taken")) := T.glo 46
theorem Tx.g_l_given (T : Tx K mg) : mg "_law_given" = some (.ref (He.ga K "_law_given")) := T.glo 47
theorem Tx.g_l_back (T : Tx K mg) : mg "_law_back" = some (.ref (He.ga K "_law_back")) := T.glo 48
theorem Tx.g_l_moved (T : Tx K mg) : mg "_law_moved" = some (.ref (He.ga K "_law_moved")) := T.glo 49
theorem Tx.g_l_step_right (T : Tx K mg) : mg "_law_step_right" = some (.ref (He.ga K "_law_step_right")) := T.glo 50
theorem Tx.g_l_stands (T : Tx K mg) : mg "_law_stands" = some (.ref (He.ga K "_law_stands")) := T.glo 51
theorem Tx.g_l_begun (T : Tx K mg) : mg "_law_begun" = some (.ref (He.ga K "_law_begun")) := T.glo 52
theorem Tx.g_l_right (T : Tx K mg) : mg "_law_right" = some (.ref (He.ga K "_law_right")) := T.glo 53
theorem Tx.g_law (T : Tx K mg) : mg "law" = some (.ref (He.ga K "law")) := T.glo 54
theorem Tx.g_GroupError (T : Tx K mg) : mg "GroupError" = some (.ref (He.ga K "GroupError")) := T.glo 55
theorem Tx.g_NoName (T : Tx K mg) : mg "NoName" = some (.ref (He.ga K "NoName")) := T.glo 56
theorem Tx.g_NoLeaf (T : Tx K mg) : mg "NoLeaf" = some (.ref (He.ga K "NoLeaf")) := T.glo 57
theorem Tx.g_NoLimit (T : Tx K mg) : mg "NoLimit" = some (.ref (He.ga K "NoLimit")) := T.glo 58
theorem Tx.g_NoTask (T : Tx K mg) : mg "NoTask" = some (.ref (He.ga K "NoTask")) := T.glo 59
theorem Tx.g_NoPages (T : Tx K mg) : mg "NoPages" = some (.ref (He.ga K "NoPages")) := T.glo 60
theorem Tx.g_NoTree (T : Tx K mg) : mg "NoTree" = some (.ref (He.ga K "NoTree")) := T.glo 61
theorem Tx.g_NoRoom (T : Tx K mg) : mg "NoRoom" = some (.ref (He.ga K "NoRoom")) := T.glo 62
theorem Tx.g_Tree (T : Tx K mg) : mg "Tree" = some (.ref (He.ga K "Tree")) := T.glo 63
theorem Tx.g_Machine (T : Tx K mg) : mg "Machine" = some (.ref (He.ga K "Machine")) := T.glo 64
theorem Tx.z_isinstance (T : Tx K mg) : mg "isinstance" = none := T.free 65
theorem Tx.z_len (T : Tx K mg) : mg "len" = none := T.free 66
theorem Tx.z_all (T : Tx K mg) : mg "all" = none := T.free 67
theorem Tx.z_sum (T : Tx K mg) : mg "sum" = none := T.free 68
theorem Tx.z_min (T : Tx K mg) : mg "min" = none := T.free 69
theorem Tx.z_max (T : Tx K mg) : mg "max" = none := T.free 70
theorem Tx.z_range (T : Tx K mg) : mg "range" = none := T.free 71
theorem Tx.z_dict (T : Tx K mg) : mg "dict" = none := T.free 72
theorem Tx.z_list (T : Tx K mg) : mg "list" = none := T.free 73
theorem Tx.z_sorted (T : Tx K mg) : mg "sorted" = none := T.free 74
theorem Tx.z_enumerate (T : Tx K mg) : mg "enumerate" = none := T.free 75
theorem Tx.z_zip (T : Tx K mg) : mg "zip" = none := T.free 76
theorem Tx.z_int (T : Tx K mg) : mg "int" = none := T.free 77
theorem Tx.z_abs (T : Tx K mg) : mg "abs" = none := T.free 78
theorem Tx.z_str (T : Tx K mg) : mg "str" = none := T.free 79
theorem Tx.z_bool (T : Tx K mg) : mg "bool" = none := T.free 80
theorem Tx.z_tuple (T : Tx K mg) : mg "tuple" = none := T.free 81
theorem Tx.z_ValueError (T : Tx K mg) : mg "ValueError" = none := T.free 82
theorem Tx.z_super (T : Tx K mg) : mg "super" = none := T.free 83
theorem Tx.v_MOST_SIGNS (T : Tx K mg) : ∃ t, mg "MOST_SIGNS" = some (.int 8 t) := by obtain ⟨h, X, G⟩ := T.kin; exact He.int_ok X G (T.says.fact 84 rfl)
theorem Tx.v_LETTERS (T : Tx K mg) : ∃ t, mg "LETTERS" = some (.str "abcdefghijklmnopqrstuvwxyz" t) := by obtain ⟨h, X, G⟩ := T.kin; exact He.str_ok X G (T.says.fact 85 rfl)
theorem Tx.c_Tree (T : Tx K mg) : Cls K (He.ga K "Tree") := He.cls_ok (T.says.fact 86 rfl)
theorem Tx.k_Tree (T : Tx K mg) : Mk K (He.ga K "Tree") (He.fAd K d_Tree_init.at_) := He.mkr_ok (T.says.fact 87 rfl)
theorem Tx.n_Tree_lines (T : Tx K mg) : NoAttr K (He.ga K "Tree") "lines" := He.noat_ok (T.says.fact 88 rfl)
theorem Tx.n_Tree_by_name (T : Tx K mg) : NoAttr K (He.ga K "Tree") "by_name" := He.noat_ok (T.says.fact 89 rfl)
theorem Tx.n_Tree_below (T : Tx K mg) : NoAttr K (He.ga K "Tree") "below" := He.noat_ok (T.says.fact 90 rfl)
theorem Tx.c_Machine (T : Tx K mg) : Cls K (He.ga K "Machine") := He.cls_ok (T.says.fact 91 rfl)
theorem Tx.k_Machine (T : Tx K mg) : Mk K (He.ga K "Machine") (He.fAd K d_Machine_init.at_) := He.mkr_ok (T.says.fact 92 rfl)
theorem Tx.n_Machine_tree (T : Tx K mg) : NoAttr K (He.ga K "Machine") "tree" := He.noat_ok (T.says.fact 93 rfl)
theorem Tx.n_Machine_most_tasks (T : Tx K mg) : NoAttr K (He.ga K "Machine") "most_tasks" := He.noat_ok (T.says.fact 94 rfl)
theorem Tx.n_Machine_most_pages (T : Tx K mg) : NoAttr K (He.ga K "Machine") "most_pages" := He.noat_ok (T.says.fact 95 rfl)
theorem Tx.n_Machine_safe (T : Tx K mg) : NoAttr K (He.ga K "Machine") "safe" := He.noat_ok (T.says.fact 96 rfl)
theorem Tx.n_Machine_places (T : Tx K mg) : NoAttr K (He.ga K "Machine") "places" := He.noat_ok (T.says.fact 97 rfl)
theorem Tx.n_Machine_many (T : Tx K mg) : NoAttr K (He.ga K "Machine") "many" := He.noat_ok (T.says.fact 98 rfl)
theorem Tx.n_Machine_sizes (T : Tx K mg) : NoAttr K (He.ga K "Machine") "sizes" := He.noat_ok (T.says.fact 99 rfl)
theorem Tx.m_Tree_contains (T : Tx K mg) : Meth K (He.ga K "Tree") "__contains__" (He.fAd K d_Tree_contains.at_) := He.meth_ok (T.says.fact 100 rfl)
theorem Tx.m_Tree_rows (T : Tx K mg) : Meth K (He.ga K "Tree") "rows" (He.fAd K d_Tree_rows.at_) := He.meth_ok (T.says.fact 101 rfl)
theorem Tx.m_Tree_leaves (T : Tx K mg) : Meth K (He.ga K "Tree") "leaves" (He.fAd K d_Tree_leaves.at_) := He.meth_ok (T.says.fact 102 rfl)
theorem Tx.m_Tree_row_of (T : Tx K mg) : Meth K (He.ga K "Tree") "row_of" (He.fAd K d_Tree_row_of.at_) := He.meth_ok (T.says.fact 103 rfl)
theorem Tx.m_Tree_children (T : Tx K mg) : Meth K (He.ga K "Tree") "children" (He.fAd K d_Tree_children.at_) := He.meth_ok (T.says.fact 104 rfl)
theorem Tx.m_Tree_path (T : Tx K mg) : Meth K (He.ga K "Tree") "path" (He.fAd K d_Tree_path.at_) := He.meth_ok (T.says.fact 105 rfl)
theorem Tx.m_Machine_way_up (T : Tx K mg) : Meth K (He.ga K "Machine") "way_up" (He.fAd K d_Machine_way_up.at_) := He.meth_ok (T.says.fact 106 rfl)
theorem Tx.m_Machine_start (T : Tx K mg) : Meth K (He.ga K "Machine") "start" (He.fAd K d_Machine_start.at_) := He.meth_ok (T.says.fact 107 rfl)
theorem Tx.m_Machine_check_task (T : Tx K mg) : Meth K (He.ga K "Machine") "check_task" (He.fAd K d_Machine_check_task.at_) := He.meth_ok (T.says.fact 108 rfl)
theorem Tx.m_Machine_stop (T : Tx K mg) : Meth K (He.ga K "Machine") "stop" (He.fAd K d_Machine_stop.at_) := He.meth_ok (T.says.fact 109 rfl)
theorem Tx.m_Machine_move (T : Tx K mg) : Meth K (He.ga K "Machine") "move" (He.fAd K d_Machine_move.at_) := He.meth_ok (T.says.fact 110 rfl)
theorem Tx.m_Machine_running (T : Tx K mg) : Meth K (He.ga K "Machine") "running" (He.fAd K d_Machine_running.at_) := He.meth_ok (T.says.fact 111 rfl)
theorem Tx.m_Machine_charged (T : Tx K mg) : Meth K (He.ga K "Machine") "charged" (He.fAd K d_Machine_charged.at_) := He.meth_ok (T.says.fact 112 rfl)
theorem Tx.m_Machine_spare (T : Tx K mg) : Meth K (He.ga K "Machine") "spare" (He.fAd K d_Machine_spare.at_) := He.meth_ok (T.says.fact 113 rfl)
theorem Tx.m_Machine_take (T : Tx K mg) : Meth K (He.ga K "Machine") "take" (He.fAd K d_Machine_take.at_) := He.meth_ok (T.says.fact 114 rfl)
theorem Tx.m_Machine_give (T : Tx K mg) : Meth K (He.ga K "Machine") "give" (He.fAd K d_Machine_give.at_) := He.meth_ok (T.says.fact 115 rfl)
theorem Tx.m_Machine_free_below (T : Tx K mg) : Meth K (He.ga K "Machine") "free_below" (He.fAd K d_Machine_free_below.at_) := He.meth_ok (T.says.fact 116 rfl)
theorem Tx.m_Machine_take_back (T : Tx K mg) : Meth K (He.ga K "Machine") "take_back" (He.fAd K d_Machine_take_back.at_) := He.meth_ok (T.says.fact 117 rfl)
theorem Tx.e_NoPages (T : Tx K mg) : PySem.W.excIn K (He.ga K "NoPages") He.veBase "ValueError.__new__" = true ∧ PySem.W.keepIn K (.ref (He.ga K "NoPages")) = true ∧ PySem.W.subIn K (.ref (He.ga K "NoPages")) (.type "BaseException") = some true ∧ PySem.W.typeIn K (.ref (He.ga K "NoPages")) = some (.type "type") := He.exc_ok (T.says.fact 118 rfl)
theorem Tx.e_NoTask (T : Tx K mg) : PySem.W.excIn K (He.ga K "NoTask") He.veBase "ValueError.__new__" = true ∧ PySem.W.keepIn K (.ref (He.ga K "NoTask")) = true ∧ PySem.W.subIn K (.ref (He.ga K "NoTask")) (.type "BaseException") = some true ∧ PySem.W.typeIn K (.ref (He.ga K "NoTask")) = some (.type "type") := He.exc_ok (T.says.fact 119 rfl)
theorem Tx.x_NoRoom_GroupError (T : Tx K mg) : PySem.W.exmOne K (.ref (He.ga K "NoRoom")) (.ref (He.ga K "GroupError")) = some true := He.exm_ok (T.says.fact 120 rfl)
theorem Tx.p_NoRoom (T : Tx K mg) : PySem.W.keepIn K (.ref (He.ga K "NoRoom")) = true := He.keep_ok (T.says.fact 121 rfl)
theorem Tx.x_NoPages_GroupError (T : Tx K mg) : PySem.W.exmOne K (.ref (He.ga K "NoPages")) (.ref (He.ga K "GroupError")) = some true := He.exm_ok (T.says.fact 122 rfl)
theorem Tx.p_NoPages (T : Tx K mg) : PySem.W.keepIn K (.ref (He.ga K "NoPages")) = true := He.keep_ok (T.says.fact 123 rfl)
theorem Tx.x_NoTask_GroupError (T : Tx K mg) : PySem.W.exmOne K (.ref (He.ga K "NoTask")) (.ref (He.ga K "GroupError")) = some true := He.exm_ok (T.says.fact 124 rfl)
theorem Tx.p_NoTask (T : Tx K mg) : PySem.W.keepIn K (.ref (He.ga K "NoTask")) = true := He.keep_ok (T.says.fact 125 rfl)
/-- where a def stands among the facts -/
theorem at_d_is_whole : fnL[0]? = some d_is_whole := rfl
theorem at_d_divisor_of : fnL[1]? = some d_divisor_of := rfl
theorem at_d_fraction_of : fnL[2]? = some d_fraction_of := rfl
theorem at_d_is_fraction : fnL[3]? = some d_is_fraction := rfl
theorem at_d_minus_of : fnL[4]? = some d_minus_of := rfl
theorem at_d_times_of : fnL[5]? = some d_times_of := rfl
theorem at_d_over_of : fnL[6]? = some d_over_of := rfl
theorem at_d_is_below : fnL[7]? = some d_is_below := rfl
theorem at_d_floor_of : fnL[8]? = some d_floor_of := rfl
theorem at_d_is_name : fnL[9]? = some d_is_name := rfl
theorem at_d_is_cap : fnL[10]? = some d_is_cap := rfl
theorem at_d_row_fits : fnL[11]? = some d_row_fits := rfl
theorem at_d_check_tree : fnL[12]? = some d_check_tree := rfl
theorem at_d_all_below : fnL[13]? = some d_all_below := rfl
theorem at_d_check_leaf : fnL[14]? = some d_check_leaf := rfl
theorem at_d_check_place : fnL[15]? = some d_check_place := rfl
theorem at_d_check_limits : fnL[16]? = some d_check_limits := rfl
theorem at_d_check_pages : fnL[17]? = some d_check_pages := rfl
theorem at_d_rounded_parts : fnL[18]? = some d_rounded_parts := rfl
theorem at_d_l_cell_at : fnL[19]? = some d_l_cell_at := rfl
theorem at_d_l_mixed : fnL[20]? = some d_l_mixed := rfl
theorem at_d_l_source : fnL[21]? = some d_l_source := rfl
theorem at_d_l_next : fnL[22]? = some d_l_next := rfl
theorem at_d_l_divisor : fnL[23]? = some d_l_divisor := rfl
theorem at_d_l_ratio : fnL[24]? = some d_l_ratio := rfl
theorem at_d_l_part : fnL[25]? = some d_l_part := rfl
theorem at_d_l_rows : fnL[26]? = some d_l_rows := rfl
theorem at_d_l_leaves : fnL[27]? = some d_l_leaves := rfl
theorem at_d_l_path : fnL[28]? = some d_l_path := rfl
theorem at_d_l_below : fnL[29]? = some d_l_below := rfl
theorem at_d_l_charged : fnL[30]? = some d_l_charged := rfl
theorem at_d_l_safe_part : fnL[31]? = some d_l_safe_part := rfl
theorem at_d_l_free : fnL[32]? = some d_l_free := rfl
theorem at_d_l_rounded : fnL[33]? = some d_l_rounded := rfl
theorem at_d_l_lost : fnL[34]? = some d_l_lost := rfl
theorem at_d_l_many : fnL[35]? = some d_l_many := rfl
theorem at_d_l_kept_pages : fnL[36]? = some d_l_kept_pages := rfl
theorem at_d_l_way : fnL[37]? = some d_l_way := rfl
theorem at_d_l_limits : fnL[38]? = some d_l_limits := rfl
theorem at_d_l_most : fnL[39]? = some d_l_most := rfl
theorem at_d_l_due_room : fnL[40]? = some d_l_due_room := rfl
theorem at_d_l_took : fnL[41]? = some d_l_took := rfl
theorem at_d_l_spare : fnL[42]? = some d_l_spare := rfl
theorem at_d_l_said : fnL[43]? = some d_l_said := rfl
theorem at_d_l_running : fnL[44]? = some d_l_running := rfl
theorem at_d_l_started : fnL[45]? = some d_l_started := rfl
theorem at_d_l_taken : fnL[46]? = some d_l_taken := rfl
theorem at_d_l_given : fnL[47]? = some d_l_given := rfl
theorem at_d_l_back : fnL[48]? = some d_l_back := rfl
theorem at_d_l_moved : fnL[49]? = some d_l_moved := rfl
theorem at_d_l_step_right : fnL[50]? = some d_l_step_right := rfl
theorem at_d_l_stands : fnL[51]? = some d_l_stands := rfl
theorem at_d_l_begun : fnL[52]? = some d_l_begun := rfl
theorem at_d_l_right : fnL[53]? = some d_l_right := rfl
theorem at_d_law : fnL[54]? = some d_law := rfl
theorem at_d_Tree_init : fnL[55]? = some d_Tree_init := rfl
theorem at_d_Tree_contains : fnL[56]? = some d_Tree_contains := rfl
theorem at_d_Tree_rows : fnL[57]? = some d_Tree_rows := rfl
theorem at_d_Tree_leaves : fnL[58]? = some d_Tree_leaves := rfl
theorem at_d_Tree_row_of : fnL[59]? = some d_Tree_row_of := rfl
theorem at_d_Tree_children : fnL[60]? = some d_Tree_children := rfl
theorem at_d_Tree_path : fnL[61]? = some d_Tree_path := rfl
theorem at_d_Machine_init : fnL[62]? = some d_Machine_init := rfl
theorem at_d_Machine_way_up : fnL[63]? = some d_Machine_way_up := rfl
theorem at_d_Machine_start : fnL[64]? = some d_Machine_start := rfl
theorem at_d_Machine_check_task : fnL[65]? = some d_Machine_check_task := rfl
theorem at_d_Machine_stop : fnL[66]? = some d_Machine_stop := rfl
theorem at_d_Machine_move : fnL[67]? = some d_Machine_move := rfl
theorem at_d_Machine_running : fnL[68]? = some d_Machine_running := rfl
theorem at_d_Machine_charged : fnL[69]? = some d_Machine_charged := rfl
theorem at_d_Machine_spare : fnL[70]? = some d_Machine_spare := rfl
theorem at_d_Machine_take : fnL[71]? = some d_Machine_take := rfl
theorem at_d_Machine_give : fnL[72]? = some d_Machine_give := rfl
theorem at_d_Machine_free_below : fnL[73]? = some d_Machine_free_below := rfl
theorem at_d_Machine_take_back : fnL[74]? = some d_Machine_take_back := rfl
end
end K74
set_option Elab.async false
set_option linter.all false
set_option maxRecDepth 100000
set_option maxHeartbeats 4000000
/-! Readings that come often: comprehensions and loops whose turns leave what stood as it was. -/
namespace K74
open PySem PySem.Spec PyProof.Rows L2
abbrev Ex := Evl.Ex
section
variable {K : PySem.W.Frag} {H H' H1 H2 : Hp} {a b p d : Addr} {o u : HO} {xs : List V}
theorem Ex.refl (H : Hp) : Ex H H := fun _ _ h => h
theorem Ex.trans {H H1 H2 : Hp} (a : Ex H H1) (b : Ex H1 H2) : Ex H H2 := fun x o h => b x o (a x o h)
theorem Ex.new (h : H p = none) : Ex H (upd H p o) := Evl.Ex.new h
theorem Ex.free (e : Ex H H') (h : H' p = none) : H p = none := Evl.fresh_back e h
theorem Ex.l (e : Ex H H') (h : SqL K H a xs) : SqL K H' a xs := Evl.ex_l e h
theorem Ex.t (e : Ex H H') (h : SqT K H a xs) : SqT K H' a xs := Evl.ex_t e h
theorem Ex.mut (e : Ex H H') (h : H p = none) : Ex H (upd H' p o) := Evl.Ex.mut e h
theorem Ex.rd (e : Ex H H') (h : Rd H a u) : Rd H' a u := Evl.ex_rd e h
/-- all but what stands at some addresses -/
def Keep (L : List Addr) (H H' : Hp) : Prop := ∀ b o, H b = some o → b ∉ L → H' b = some o
theorem Keep.of {L : List Addr} (e : Ex H H') : Keep L H H' := fun b o h _ => e b o h
theorem Keep.trans {L : List Addr} (a : Keep L H H1) (b : Keep L H1 H2) : Keep L H H2 := fun c o h n => b c o (a c o h n) n
theorem Keep.mono {L M : List Addr} (a : Keep L H H') (h : ∀ x, x ∈ L → x ∈ M) : Keep M H H' := fun c o e n => a c o e fun z => n (h c z)
theorem Keep.upd (o : HO) : Keep [a] H (upd H a o) := fun b u h n => by
  rw [upd_ne (fun e => n (by rw [e]; exact List.mem_singleton.mpr rfl))]
  exact h
theorem Keep.nil (k : Keep [] H H') : Ex H H' := fun b o h => k b o h (by simp)
/-- a list that is new may change -/
theorem Keep.new {L : List Addr} (k : Keep (p :: L) H H') (h : H p = none) : Keep L H H' := fun b o e n => k b o e fun z => (List.mem_cons.mp z).elim (fun q => by rw [q, h] at e; cases e) n
theorem SqL.of' (h : H a = some (.lst xs)) : SqL K H a xs := .inl (.inl h)
theorem SqT.of' (h : H a = some (.tup xs)) : SqT K H a xs := .inl (.inl h)
end
theorem take_len {α : Type} (xs : List α) : xs.take xs.length = xs := List.take_length
theorem fm_snoc {β γ : Type} {f : β → Option γ} {bs : List β} {i : Nat} {b : β} (h : bs[i]? = some b) : (bs.take (i + 1)).filterMap f = (bs.take i).filterMap f ++ (f b).toList := by
  rw [List.take_succ, h, List.filterMap_append]
  congr 1
/-- all but the lists -/
def KeepT (H H' : Hp) : Prop := ∀ b o, H b = some o → (∀ xs, o ≠ .lst xs) → H' b = some o
theorem Ex.keepT {H H' : Hp} (e : Ex H H') : KeepT H H' := fun b o h _ => e b o h
theorem KeepT.lst {H : Hp} {D : Addr} {xs ys : List V} (h : H D = some (.lst xs)) : KeepT H (upd H D (.lst ys)) := fun b o hb n => by
  rw [upd_ne (fun e => n xs (by rw [e, h] at hb; cases hb; rfl))]
  exact hb
theorem KeepT.t {K : PySem.W.Frag} {H H' : Hp} {a : Addr} {xs : List V} (e : KeepT H H') (h : SqT K H a xs) : SqT K H' a xs := by
  rcases h with h | h
  · rcases h with h | ⟨o, h⟩
    · exact .inl (.inl (e _ _ h fun xs z => by cases z))
    · exact .inl (.inr ⟨o, e _ _ h fun xs z => by cases z⟩)
  · exact .inr h
/-- values that stand for data -/
def Reps {γ : Type} (Rep : Hp → V → γ → Prop) (H : Hp) (ys : List V) (cs : List γ) : Prop := ∃ tr : List (V × γ), ys = tr.map (·.1) ∧ cs = tr.map (·.2) ∧ ∀ p, p ∈ tr → Rep H p.1 p.2
/-- what one turn gives -/
def OutR {γ : Type} (Rep : Hp → V → γ → Prop) (H : Hp) : Option γ → Option V → Prop
  | none, y => y = none
  | some c, y => ∃ v, y = some v ∧ Rep H v c
abbrev PureR : Hp → V → V → Prop := fun _ v c => v = c
theorem Reps.pure {H : Hp} {ys cs : List V} (h : Reps PureR H ys cs) : ys = cs := by
  obtain ⟨tr, rfl, rfl, h⟩ := h
  exact List.map_congr_left h
section
variable {K : PySem.W.Frag} {σ : L2.St} {H1 : Hp} {D a c : Addr} {g : TG} {tt : TT} {te tk tv : TE} {vs : List Nat} {Qd : Hp → Prop}
/-- [.. for .. in ..]: each turn leaves what stood -/
theorem lc_it {β γ : Type} (J : It) (bs : List β) (Rep : Hp → V → γ → Prop) (mono : ∀ H H' v c, KeepT H H' → Rep H v c → Rep H' v c) (f : β → Option γ) (hD : H1 D = none) (hz : bs.length ≤ 10000)
    (hgo : ∀ (i : Nat) (b : β) (H : Hp), bs[i]? = some b → Ex H1 H → J.go i H) (hstop : ∀ H, Ex H1 H → J.stop bs.length H)
    (turn : ∀ (i : Nat) (b : β) (H' : Hp) (x : V) (H'' : Hp), bs[i]? = some b → Ex H1 H' → J.yld i H' x H'' → Ex H' H'' ∧ ∀ Q : Option V → Hp → Prop, (∀ y H4, Ex H'' H4 → OutR Rep H4 (f b) y → Q y H4) →
      g x (wipe σ vs) H'' fun σ2 H2 => wipe σ2 vs = wipe σ vs ∧ tt σ2 H2 fun b H3 => if b = true then te σ2 H3 fun y H4 => Q (some y) H4 else Q none H3)
    (done : ∀ H' ys, Ex H1 H' → H' D = some (.lst ys) → Reps Rep H' ys (bs.filterMap f) → Qd H') :
    ∃ W : Nat → Nat → Hp → Prop, (∃ m, W 0 m (upd H1 D (.lst []))) ∧ ∀ i m H, W i m H →
      (J.stop i H ∧ Qd H) ∨ (J.go i H ∧ ∃ Nx : Hp → Prop, (∀ H', Nx H' → ∃ m', m' < m ∧ W (i + 1) m' H') ∧ ∀ x H', J.yld i H x H' → g x (wipe σ vs) H' fun σ2 H2 => wipe σ2 vs = wipe σ vs ∧ tt σ2 H2 fun b H3 =>
        if b = true then te σ2 H3 fun y H4 => ∃ acc, H4 D = some (.lst acc) ∧ acc.length < sizeLine ∧ Nx (upd H4 D (.lst (acc ++ [y]))) else Nx H3) := by
  refine ⟨fun i m H' => m = bs.length - i ∧ i ≤ bs.length ∧ Ex H1 H' ∧ ∃ ys, H' D = some (.lst ys) ∧ Reps Rep H' ys ((bs.take i).filterMap f), ⟨bs.length, by simp, Nat.zero_le _, Ex.new hD, [], upd_same, [], rfl, rfl, fun p h => by cases h⟩, ?_⟩
  rintro i m H ⟨rfl, hi, p, ys, q, tr, rfl, hc, hr⟩
  by_cases hlt : i < bs.length
  · have hb : bs[i]? = some bs[i] := List.getElem?_eq_getElem hlt
    refine .inr ⟨hgo i _ H hb p, fun H' => Ex H1 H' ∧ ∃ ys, H' D = some (.lst ys) ∧ Reps Rep H' ys ((bs.take (i + 1)).filterMap f), fun H' p' => ⟨bs.length - (i + 1), by omega, rfl, hlt, p'⟩, fun x H' y => ?_⟩
    obtain ⟨e1, t⟩ := turn i _ H x H' hb p y
    have hl : (tr.map (·.1)).length < sizeLine := by
      have h1 : ((bs.take i).filterMap f).length ≤ (bs.take i).length := List.length_filterMap_le _ _
      rw [hc, List.length_map, List.length_take] at h1
      rw [List.length_map, sizeLine_eq]
      omega
    refine t (fun o H4 => match o with
      | some y => ∃ acc, H4 D = some (.lst acc) ∧ acc.length < sizeLine ∧ (Ex H1 (upd H4 D (.lst (acc ++ [y]))) ∧ ∃ ys, (upd H4 D (.lst (acc ++ [y]))) D = some (.lst ys) ∧ Reps Rep (upd H4 D (.lst (acc ++ [y]))) ys ((bs.take (i + 1)).filterMap f))
      | none => Ex H1 H4 ∧ ∃ ys, H4 D = some (.lst ys) ∧ Reps Rep H4 ys ((bs.take (i + 1)).filterMap f)) fun y H4 e4 out => ?_
    have e5 : Ex H H4 := e1.trans e4
    cases hf : f bs[i] with
    | none =>
      rw [hf] at out
      cases (show y = none from out)
      refine ⟨p.trans e5, tr.map (·.1), e5 D _ q, tr, rfl, ?_, fun z hz => mono _ _ _ _ e5.keepT (hr z hz)⟩
      rw [fm_snoc hb, hf, hc]
      exact List.append_nil _
    | some c =>
      rw [hf] at out
      obtain ⟨v, rfl, rv⟩ := out
      have kt := KeepT.lst (ys := tr.map (·.1) ++ [v]) (e5 D _ q)
      refine ⟨_, e5 D _ q, hl, (p.trans e5).mut hD, _, upd_same, tr ++ [(v, c)], by simp, ?_, fun z hz => ?_⟩
      · rw [fm_snoc hb, hf, hc]
        simp
      · rcases List.mem_append.mp hz with hz | hz
        · exact mono _ _ _ _ kt (mono _ _ _ _ e5.keepT (hr z hz))
        · cases List.mem_singleton.mp hz
          exact mono _ _ _ _ kt rv
  · have e : i = bs.length := by omega
    subst e
    rw [take_len] at hc
    exact .inl ⟨hstop H p, done H _ p q ⟨tr, rfl, hc, hr⟩⟩
theorem go_l {β : Type} {bs : List β} {val : β → V} (hs : SqL K H1 a (bs.map val)) : ∀ (i : Nat) (b : β) (H : Hp), bs[i]? = some b → Ex H1 H → (Itl K a).go i H := fun i b H h e => ⟨_, val b, e.l hs, by rw [List.getElem?_map, h]; rfl⟩
theorem stop_l {β : Type} {bs : List β} {val : β → V} (hs : SqL K H1 a (bs.map val)) : ∀ H, Ex H1 H → (Itl K a).stop bs.length H := fun H e => ⟨_, e.l hs, by rw [List.length_map]; exact Nat.le_refl _⟩
theorem yld_l {β : Type} {bs : List β} {val : β → V} (hs : SqL K H1 a (bs.map val)) {i : Nat} {b : β} {H' H'' : Hp} {x : V} (hb : bs[i]? = some b) (e : Ex H1 H') (y : (Itl K a).yld i H' x H'') : H'' = H' ∧ x = val b := by
  obtain ⟨e2, q⟩ := y
  have z := q _ (e.l hs)
  rw [List.getElem?_map, hb] at z
  exact ⟨e2, (Option.some.inj z).symm⟩
/-- over a list, values that stand for data -/
theorem lc_rep {β γ : Type} (bs : List β) (val : β → V) (Rep : Hp → V → γ → Prop) (mono : ∀ H H' v c, KeepT H H' → Rep H v c → Rep H' v c) (f : β → Option γ) (hD : H1 D = none) (hs : SqL K H1 a (bs.map val)) (hz : bs.length ≤ 10000)
    (turn : ∀ (i : Nat) (b : β) (H' : Hp), bs[i]? = some b → Ex H1 H' → ∀ Q : Option V → Hp → Prop, (∀ y H4, Ex H' H4 → OutR Rep H4 (f b) y → Q y H4) →
      g (val b) (wipe σ vs) H' fun σ2 H2 => wipe σ2 vs = wipe σ vs ∧ tt σ2 H2 fun b H3 => if b = true then te σ2 H3 fun y H4 => Q (some y) H4 else Q none H3)
    (done : ∀ H' ys, Ex H1 H' → H' D = some (.lst ys) → Reps Rep H' ys (bs.filterMap f) → Qd H') :
    ∃ W : Nat → Nat → Hp → Prop, (∃ m, W 0 m (upd H1 D (.lst []))) ∧ ∀ i m H, W i m H →
      ((Itl K a).stop i H ∧ Qd H) ∨ ((Itl K a).go i H ∧ ∃ Nx : Hp → Prop, (∀ H', Nx H' → ∃ m', m' < m ∧ W (i + 1) m' H') ∧ ∀ x H', (Itl K a).yld i H x H' → g x (wipe σ vs) H' fun σ2 H2 => wipe σ2 vs = wipe σ vs ∧ tt σ2 H2 fun b H3 =>
        if b = true then te σ2 H3 fun y H4 => ∃ acc, H4 D = some (.lst acc) ∧ acc.length < sizeLine ∧ Nx (upd H4 D (.lst (acc ++ [y]))) else Nx H3) :=
  lc_it (Itl K a) bs Rep mono f hD hz (go_l hs) (stop_l hs) (fun i b H' x H'' hb e y => by
    obtain ⟨rfl, rfl⟩ := yld_l hs hb e y
    exact ⟨Ex.refl _, turn i b _ hb e⟩) done
/-- over a list, values -/
theorem lc_b {β : Type} (bs : List β) (val : β → V) (f : β → Option V) (hD : H1 D = none) (hs : SqL K H1 a (bs.map val)) (hz : bs.length ≤ 10000)
    (turn : ∀ (i : Nat) (b : β) (H' : Hp), bs[i]? = some b → Ex H1 H' → ∀ Q : Option V → Hp → Prop, (∀ H4, Ex H' H4 → Q (f b) H4) →
      g (val b) (wipe σ vs) H' fun σ2 H2 => wipe σ2 vs = wipe σ vs ∧ tt σ2 H2 fun b H3 => if b = true then te σ2 H3 fun y H4 => Q (some y) H4 else Q none H3)
    (done : ∀ H', Ex H1 H' → H' D = some (.lst (bs.filterMap f)) → Qd H') :
    ∃ W : Nat → Nat → Hp → Prop, (∃ m, W 0 m (upd H1 D (.lst []))) ∧ ∀ i m H, W i m H →
      ((Itl K a).stop i H ∧ Qd H) ∨ ((Itl K a).go i H ∧ ∃ Nx : Hp → Prop, (∀ H', Nx H' → ∃ m', m' < m ∧ W (i + 1) m' H') ∧ ∀ x H', (Itl K a).yld i H x H' → g x (wipe σ vs) H' fun σ2 H2 => wipe σ2 vs = wipe σ vs ∧ tt σ2 H2 fun b H3 =>
        if b = true then te σ2 H3 fun y H4 => ∃ acc, H4 D = some (.lst acc) ∧ acc.length < sizeLine ∧ Nx (upd H4 D (.lst (acc ++ [y]))) else Nx H3) :=
  lc_rep bs val PureR (fun _ _ _ _ _ h => h) f hD hs hz (fun i b H' hb e Q q => turn i b H' hb e Q fun H4 e4 => q _ H4 e4 (by
    cases f b with
    | none => rfl
    | some v => exact ⟨v, rfl, rfl⟩)) fun H' ys e h r => done H' e (by rw [← r.pure]; exact h)
/-- {.. : .. for .. in a list} -/
theorem dc_b {β : Type} (bs : List β) (val : β → V) (f : β → Option (Key × V)) (hD : H1 D = none) (hs : SqL K H1 a (bs.map val)) (hz : bs.length ≤ 10000)
    (turn : ∀ (i : Nat) (b : β) (H' : Hp), bs[i]? = some b → Ex H1 H' → ∀ Q : Option (V × V) → Hp → Prop, (∀ H4, Ex H' H4 → Q ((f b).map fun p => (kV p.1, p.2)) H4) →
      g (val b) (wipe σ vs) H' fun σ2 H2 => wipe σ2 vs = wipe σ vs ∧ tt σ2 H2 fun b H3 => if b = true then tk σ2 H3 fun y H4 => tv σ2 H4 fun z H5 => Q (some (y, z)) H5 else Q none H3)
    (done : ∀ H', Ex H1 H' → H' D = some (.dK (mergeK [] (bs.filterMap f))) → Qd H') :
    ∃ W : Nat → Nat → Hp → Prop, (∃ m, W 0 m (upd H1 D (.dK []))) ∧ ∀ i m H, W i m H →
      ((Itl K a).stop i H ∧ Qd H) ∨ ((Itl K a).go i H ∧ ∃ Nx : Hp → Prop, (∀ H', Nx H' → ∃ m', m' < m ∧ W (i + 1) m' H') ∧ ∀ x H', (Itl K a).yld i H x H' → g x (wipe σ vs) H' fun σ2 H2 => wipe σ2 vs = wipe σ vs ∧ tt σ2 H2 fun b H3 =>
        if b = true then tk σ2 H3 fun y H4 => tv σ2 H4 fun z H5 => ∃ kvs k, y = kV k ∧ H5 D = some (.dK kvs) ∧ kvs.length < sizeLine ∧ Nx (upd H5 D (.dK (putK kvs k z))) else Nx H3) := by
  have ml : ∀ (zs kvs : List (Key × V)), (mergeK kvs zs).length ≤ kvs.length + zs.length := fun zs => by
    induction zs with
    | nil => intro kvs; exact Nat.le_refl _
    | cons z zs ih =>
      intro kvs
      have h1 := ih (putK kvs z.1 z.2)
      have h2 := length_putK kvs z.1 z.2
      show (mergeK (putK kvs z.1 z.2) zs).length ≤ _
      rw [List.length_cons]
      omega
  refine ⟨fun i m H' => m = bs.length - i ∧ i ≤ bs.length ∧ Ex H1 H' ∧ H' D = some (.dK (mergeK [] ((bs.take i).filterMap f))), ⟨bs.length, by simp, Nat.zero_le _, Ex.new hD, upd_same⟩, ?_⟩
  rintro i m H ⟨rfl, hi, p, q⟩
  by_cases hlt : i < bs.length
  · have hb : bs[i]? = some bs[i] := List.getElem?_eq_getElem hlt
    refine .inr ⟨go_l hs i _ H hb p, fun H' => Ex H1 H' ∧ H' D = some (.dK (mergeK [] ((bs.take (i + 1)).filterMap f))), fun H' p' => ⟨bs.length - (i + 1), by omega, rfl, hlt, p'⟩, fun x H' y => ?_⟩
    obtain ⟨rfl, rfl⟩ := yld_l hs hb p y
    have hl : (mergeK [] ((bs.take i).filterMap f)).length < sizeLine := by
      have h1 : ((bs.take i).filterMap f).length ≤ (bs.take i).length := List.length_filterMap_le _ _
      have h2 := ml ((bs.take i).filterMap f) []
      rw [List.length_take] at h1
      rw [sizeLine_eq]
      simp only [List.length_nil] at h2
      omega
    refine turn i _ H' hb p (fun o H4 => match o with
      | some yz => ∃ kvs k, yz.1 = kV k ∧ H4 D = some (.dK kvs) ∧ kvs.length < sizeLine ∧ (Ex H1 (upd H4 D (.dK (putK kvs k yz.2))) ∧ (upd H4 D (.dK (putK kvs k yz.2))) D = some (.dK (mergeK [] ((bs.take (i + 1)).filterMap f))))
      | none => Ex H1 H4 ∧ H4 D = some (.dK (mergeK [] ((bs.take (i + 1)).filterMap f)))) fun H4 e4 => ?_
    cases hf : f bs[i] with
    | none =>
      refine ⟨p.trans e4, ?_⟩
      rw [fm_snoc hb, hf]
      simpa using e4 D _ q
    | some kv =>
      refine ⟨_, kv.1, rfl, e4 D _ q, hl, (p.trans e4).mut hD, ?_⟩
      rw [fm_snoc hb, hf, upd_same]
      show _ = some (HO.dK (mergeK [] (_ ++ [kv])))
      unfold mergeK
      rw [List.foldl_append]
      rfl
  · have e : i = bs.length := by omega
    subst e
    rw [take_len] at q
    exact .inl ⟨stop_l hs H p, done H p q⟩
end
/-! ### walks over a dict's keys -/
section
variable {d : Addr} {od : Obj} {kvs : List (Key × V)} {g : TG} {tb : TS} {D : Ends} {σ : L2.St} {H : Hp}
/-- for k in d, d locked: the invariant by the turn -/
theorem for_keys (Pv : Nat → L2.St → Hp → Prop) (h0 : Pv 0 σ H) (hl : ∀ i σ H, i ≤ kvs.length → Pv i σ H → H d = some (.frz od (.dK kvs)))
    (hs : ∀ i k v σ H, kvs[i]? = some (k, v) → Pv i σ H → g (kV k) σ H fun σ2 H2 => tb { D with nx := Pv (i + 1), ct := Pv (i + 1), bk := D.nx } σ2 H2) (hd : ∀ σ H, Pv kvs.length σ H → D.nx σ H) :
    ∃ W : Nat → Nat → L2.St → Hp → Prop, (∃ m, W 0 m σ H) ∧ ∀ i m σ H, W i m σ H →
      ((Itk d od kvs).stop i H ∧ D.nx σ H) ∨ ((Itk d od kvs).go i H ∧ ∃ N : L2.St → Hp → Prop, (∀ σ' H', N σ' H' → ∃ m', m' < m ∧ W (i + 1) m' σ' H') ∧ ∀ x H', (Itk d od kvs).yld i H x H' → g x σ H' fun σ2 H2 => tb { D with nx := N, ct := N, bk := D.nx } σ2 H2) := by
  refine ⟨fun i m σ H => m = kvs.length - i ∧ i ≤ kvs.length ∧ Pv i σ H, ⟨kvs.length, by simp, Nat.zero_le _, h0⟩, ?_⟩
  rintro i m σ H ⟨rfl, hi, p⟩
  have hf := hl i σ H hi p
  by_cases hlt : i < kvs.length
  · refine .inr ⟨⟨hf, hlt⟩, Pv (i + 1), fun σ' H' p' => ⟨kvs.length - (i + 1), by omega, rfl, hlt, p'⟩, fun x H' y => ?_⟩
    obtain ⟨e, k, v, hk, ex⟩ := y
    subst e ex
    exact hs i k v σ H' hk p
  · have e : i = kvs.length := by omega
    subst e
    exact .inl ⟨⟨hf, Nat.le_refl _⟩, hd σ H p⟩
end
section
variable {d D : Addr} {od : Obj} {kvs : List (Key × V)} {g : TG} {tt : TT} {te : TE} {vs : List Nat} {σ : L2.St} {H1 : Hp} {Qd : Hp → Prop}
theorem lc_keys (hD : H1 D = none) (f : Key × V → Option V) (hf : H1 d = some (.frz od (.dK kvs))) (hz : kvs.length ≤ 10000)
    (turn : ∀ (i : Nat) (k : Key) (v : V) (H' : Hp), kvs[i]? = some (k, v) → Ex H1 H' → ∀ Q : Option V → Hp → Prop, (∀ H4, Ex H' H4 → Q (f (k, v)) H4) →
      g (kV k) (wipe σ vs) H' fun σ2 H2 => wipe σ2 vs = wipe σ vs ∧ tt σ2 H2 fun b H3 => if b = true then te σ2 H3 fun y H4 => Q (some y) H4 else Q none H3)
    (done : ∀ H', Ex H1 H' → H' D = some (.lst (kvs.filterMap f)) → Qd H') :
    ∃ W : Nat → Nat → Hp → Prop, (∃ m, W 0 m (upd H1 D (.lst []))) ∧ ∀ i m H, W i m H →
      ((Itk d od kvs).stop i H ∧ Qd H) ∨ ((Itk d od kvs).go i H ∧ ∃ Nx : Hp → Prop, (∀ H', Nx H' → ∃ m', m' < m ∧ W (i + 1) m' H') ∧ ∀ x H', (Itk d od kvs).yld i H x H' → g x (wipe σ vs) H' fun σ2 H2 => wipe σ2 vs = wipe σ vs ∧ tt σ2 H2 fun b H3 =>
        if b = true then te σ2 H3 fun y H4 => ∃ acc, H4 D = some (.lst acc) ∧ acc.length < sizeLine ∧ Nx (upd H4 D (.lst (acc ++ [y]))) else Nx H3) := by
  refine ⟨fun i m H' => m = kvs.length - i ∧ i ≤ kvs.length ∧ Ex H1 H' ∧ H' D = some (.lst ((kvs.take i).filterMap f)), ⟨kvs.length, by simp, Nat.zero_le _, Ex.new hD, upd_same⟩, ?_⟩
  rintro i m H ⟨rfl, hi, p, q⟩
  have hfz := p d _ hf
  by_cases hlt : i < kvs.length
  · refine .inr ⟨⟨hfz, hlt⟩, fun H' => Ex H1 H' ∧ H' D = some (.lst ((kvs.take (i + 1)).filterMap f)), fun H' p' => ⟨kvs.length - (i + 1), by omega, rfl, hlt, p'⟩, fun x H' y => ?_⟩
    obtain ⟨e, k, v, hk, ex⟩ := y
    subst e ex
    have hl : ((kvs.take i).filterMap f).length < sizeLine := by
      have h1 : ((kvs.take i).filterMap f).length ≤ (kvs.take i).length := List.length_filterMap_le _ _
      rw [List.length_take] at h1
      rw [sizeLine_eq]
      omega
    have es : (kvs.take (i + 1)).filterMap f = (kvs.take i).filterMap f ++ (f (k, v)).toList := by
      rw [List.take_succ, hk, List.filterMap_append]
      congr 1
    refine turn i k v H' hk p (fun o H4 => match o with
      | some y => ∃ acc, H4 D = some (.lst acc) ∧ acc.length < sizeLine ∧ (Ex H1 (upd H4 D (.lst (acc ++ [y]))) ∧ (upd H4 D (.lst (acc ++ [y]))) D = some (.lst ((kvs.take (i + 1)).filterMap f)))
      | none => Ex H1 H4 ∧ H4 D = some (.lst ((kvs.take (i + 1)).filterMap f))) fun H4 e4 => ?_
    cases hfx : f (k, v) with
    | none =>
      refine ⟨p.trans e4, ?_⟩
      rw [es, hfx]
      simpa using e4 D _ q
    | some y =>
      refine ⟨_, e4 D _ q, hl, (p.trans e4).mut hD, ?_⟩
      rw [es, hfx]
      exact upd_same
  · have e : i = kvs.length := by omega
    subst e
    rw [take_len] at q
    exact .inl ⟨⟨hfz, Nat.le_refl _⟩, done H p q⟩
end
/-! ### a dict that is locked for a walk, or is so already -/
def tLockO (t : TE) : TE := fun σ H Q => tLockE t σ H Q ∨ t σ H Q
theorem pe_lockO {X : Cx} {e : Expr} {t : TE} (h : PE X e t) : PE X e (tLockO t) := ⟨fun pins s σ H Q I q => q.elim (fun q => (pe_lock h).run pins s σ H Q I q) fun q => h.run pins s σ H Q I q⟩
theorem lockO {d : Addr} {kvs : List (Key × V)} {t : TE} {σ : L2.St} {H : Hp} {Q : VK} (h : Rd H d (.dK kvs))
    (k : ∀ (od : Obj) (Hl : Hp) (Q' : VK), Hl d = some (.frz od (.dK kvs)) → (∀ b, b ≠ d → Hl b = H b) → (∀ v H', Ex Hl H' → (∀ H2, Ex H H2 → (∀ b o, b ≠ d → H' b = some o → H2 b = some o) → Q v H2) → Q' v H') → t σ Hl Q') : tLockO t σ H Q := by
  rcases h with h | ⟨od, h⟩
  · refine .inl ⟨d, _, h, True.intro, fun od => k od _ _ upd_same (fun b hb => upd_ne hb) fun v H' e q => ⟨e d _ upd_same, q _ (fun b o hb => ?_) fun b o hb ho => by rw [upd_ne hb]; exact ho⟩⟩
    by_cases hbd : b = d
    · subst hbd
      rw [upd_same]
      exact h.symm.trans hb
    · rw [upd_ne hbd]
      exact e b o (by rw [upd_ne hbd]; exact hb)
  · exact .inr (k od H Q h (fun b _ => rfl) fun v H' e q => q H' e fun b o _ ho => ho)
/-- [.. for k in a dict ..] -/
theorem keysC {d : Addr} {kvs : List (Key × V)} {td te : TE} {g : TG} {tt : TT} {vs : List Nat} {σ : L2.St} {H : Hp} {Q : VK} (h : Rd H d (.dK kvs)) (hz : kvs.length ≤ 10000) (f : Key × V → Option V)
    (hd : ∀ (od : Obj) (Hl : Hp), Hl d = some (.frz od (.dK kvs)) → (∀ b, b ≠ d → Hl b = H b) → ∀ Q1 : VK, Q1 (.ref d) Hl → td σ Hl Q1)
    (turn : ∀ (i : Nat) (k : Key) (v : V) (od : Obj) (Hl H' : Hp), kvs[i]? = some (k, v) → Hl d = some (.frz od (.dK kvs)) → (∀ b, b ≠ d → Hl b = H b) → Ex Hl H' → ∀ Q : Option V → Hp → Prop, (∀ H4, Ex H' H4 → Q (f (k, v)) H4) →
      g (kV k) (wipe σ vs) H' fun σ2 H2 => wipe σ2 vs = wipe σ vs ∧ tt σ2 H2 fun b H3 => if b = true then te σ2 H3 fun y H4 => Q (some y) H4 else Q none H3)
    (done : ∀ p H2, H p = none → Ex H H2 → H2 p = some (.lst (kvs.filterMap f)) → Q (.ref p) H2) : tLockO (tLc (iKeys td) g tt te vs) σ H Q := by
  refine lockO h fun od Hl Q' hl hb hq => ?_
  refine hd od Hl hl hb _ ⟨d, od, rfl, .inl ⟨kvs, hl, fun D hD => ?_⟩⟩
  have nD : D ≠ d := fun e => by
    rw [e, hl] at hD
    cases hD
  refine lc_keys hD f hl hz (fun i k v H' hk e Qn q => turn i k v od Hl H' hk hl hb e Qn q) fun H' e ho => ?_
  refine hq _ _ e fun H2 e2 k2 => done D H2 ?_ e2 (k2 D _ nD ho)
  rw [← hb D nD]
  exact hD
/-! ### rules whose wants name the class's facts: said for the def's own -/
section
variable {X : Cx}
theorem ixT (K : PySem.W.Frag) (h : X.K = K) : IxR X (rIxT K) := h ▸ ix_tup
theorem ixL (K : PySem.W.Frag) (h : X.K = K) : IxR X (rIxL K) := h ▸ ix_list
theorem opIn (K : PySem.W.Frag) (h : X.K = K) : OpR X (compareOp .In) (rIn K false) := h ▸ op_in_seq
theorem opNin (K : PySem.W.Frag) (h : X.K = K) : OpR X (compareOp .NotIn) (rIn K true) := h ▸ op_notIn_seq
theorem opEqD (K : PySem.W.Frag) (h : X.K = K) (hu : X.A.units + 64 < cLine) : OpR X (compareOp .Eq) (rEqD K) := h ▸ op_eqD hu
theorem opNeD (K : PySem.W.Frag) (h : X.K = K) (hu : X.A.units + 64 < cLine) : OpR X (compareOp .NotEq) (rNeD K) := h ▸ op_neD hu
theorem callLen (K : PySem.W.Frag) (h : X.K = K) : CallR X (.builtin "len") (fun xs H Q => ∃ p ys, xs = [.ref p] ∧ (SqL K H p ys ∨ SqT K H p ys) ∧ Q (.int ys.length) H) := h ▸ call_len_seq
theorem peF (K : PySem.W.Frag) (h : X.K = K) {e : Expr} {f : Str} {pos : Pos} {ta : TE} (he : PE X e ta) (hb : attributeBase e f X.env (eval e X.env) = eval e X.env) : PE X (.Attribute e f pos) (tFld K ta f) := h ▸ pe_fld he hb
theorem pgT (K : PySem.W.Frag) (h : X.K = K) (hc : X.calm = true) {es : List Expr} {k : Nat} {pos : Pos} {t : TGs} {n : Nat} (hg : PGs X es t) (hn : (assignEach es X.env).length = n := by rfl) (hst : (assignEach es X.env).findIdx? (·.1) = none := by rfl) : PG X (.Tuple es k pos) (gTup K n t) := h ▸ pg_tup hc hg hn hst
theorem slL (K : PySem.W.Frag) (h : X.K = K) : SlR X (rSlL K) := h ▸ sl_list
end
end K74
set_option linter.all false
/-! Fractions in lowest terms. -/
namespace K74
def gcdI (a b : Int) : Int := (Int.gcd a b : Nat)
theorem gcdI_zero (a : Int) : gcdI a 0 = a.natAbs := by simp [gcdI]
theorem gcdI_step {a b : Int} (ha : 0 ≤ a) (hb : 0 < b) : gcdI b (a % b) = gcdI a b := by
  obtain ⟨A, rfl⟩ := Int.eq_ofNat_of_zero_le ha
  obtain ⟨B, rfl⟩ := Int.eq_ofNat_of_zero_le (Int.le_of_lt hb)
  unfold gcdI
  have e : ((A : Int) % (B : Int)) = ((A % B : Nat) : Int) := rfl
  rw [e]
  show ((Nat.gcd B (A % B) : Nat) : Int) = ((Nat.gcd A B : Nat) : Int)
  rw [Nat.gcd_comm B (A % B), ← Nat.gcd_rec, Nat.gcd_comm]
theorem gcdI_pos {a b : Int} (hb : 0 < b) : 0 < gcdI a b := by
  unfold gcdI
  have : 0 < Int.gcd a b := Int.gcd_pos_of_ne_zero_right a (by omega)
  omega
theorem gcdI_abs (a b : Int) : gcdI (a.natAbs : Int) b = gcdI a b := by
  unfold gcdI
  simp [Int.gcd]
def redF (t b : Int) : Int × Int := (t / gcdI t b, b / gcdI t b)
theorem gcdI_dvd_l (a b : Int) : gcdI a b ∣ a := Int.gcd_dvd_left a b
theorem gcdI_dvd_r (a b : Int) : gcdI a b ∣ b := Int.gcd_dvd_right a b
theorem red_l (t b : Int) : (redF t b).1 * gcdI t b = t := Int.ediv_mul_cancel (gcdI_dvd_l t b)
theorem red_r (t b : Int) : (redF t b).2 * gcdI t b = b := Int.ediv_mul_cancel (gcdI_dvd_r t b)
theorem red_pos {t b : Int} (hb : 0 < b) : 0 < (redF t b).2 := by
  have h1 := red_r t b
  have h2 := gcdI_pos (a := t) hb
  apply Classical.byContradiction
  intro c
  have : (redF t b).2 * gcdI t b ≤ 0 := Int.mul_nonpos_of_nonpos_of_nonneg (by omega) (by omega)
  omega
theorem red_eq {t b : Int} (hb : 0 < b) : (redF t b).1 * b = t * (redF t b).2 := by
  have h1 := red_l t b
  have h2 := red_r t b
  calc (redF t b).1 * b = (redF t b).1 * ((redF t b).2 * gcdI t b) := by rw [h2]
    _ = ((redF t b).1 * gcdI t b) * (redF t b).2 := by rw [Int.mul_comm (redF t b).2, Int.mul_assoc]
    _ = t * (redF t b).2 := by rw [h1]
theorem red_nonneg {t b : Int} (ht : 0 ≤ t) (hb : 0 < b) : 0 ≤ (redF t b).1 := Int.ediv_nonneg ht (Int.le_of_lt (gcdI_pos hb))
theorem red_le_l {t b : Int} (ht : 0 ≤ t) (hb : 0 < b) : (redF t b).1 ≤ t := by
  have h1 := red_l t b
  have h2 := gcdI_pos (a := t) hb
  have h3 := red_nonneg ht hb
  have : (redF t b).1 * 1 ≤ (redF t b).1 * gcdI t b := Int.mul_le_mul_of_nonneg_left (by omega) h3
  omega
theorem red_le_r {t b : Int} (hb : 0 < b) : (redF t b).2 ≤ b := by
  have h1 := red_r t b
  have h2 := gcdI_pos (a := t) hb
  have h3 := red_pos (t := t) hb
  have : (redF t b).2 * 1 ≤ (redF t b).2 * gcdI t b := Int.mul_le_mul_of_nonneg_left (by omega) (by omega)
  omega
theorem red_gcd {t b : Int} (hb : 0 < b) : gcdI (redF t b).1 (redF t b).2 = 1 := by
  have h := gcdI_pos (a := t) hb
  unfold gcdI at h
  have h2 : 0 < Int.gcd t b := by omega
  have := Int.gcd_ediv_gcd_ediv_gcd h2
  show ((Int.gcd (t / (Int.gcd t b : Nat)) (b / (Int.gcd t b : Nat)) : Nat) : Int) = 1
  omega
/-- the same fraction -/
def SameQ (p q : Int × Int) : Prop := 0 < p.2 ∧ 0 < q.2 ∧ p.1 * q.2 = q.1 * p.2
theorem sameQ_red {t b : Int} (hb : 0 < b) : SameQ (redF t b) (t, b) := ⟨red_pos hb, hb, red_eq hb⟩
theorem SameQ.lt {p q : Int × Int} (h : SameQ p q) (w : Int) : p.1 < w * p.2 ↔ q.1 < w * q.2 := by
  obtain ⟨h1, h2, h3⟩ := h
  have key : ∀ {a b c d : Int}, 0 < b → 0 < d → a * d = c * b → (a < w * b → c < w * d) := by
    intro a b c d hb hd e hlt
    have z : a * d < w * b * d := Int.mul_lt_mul_of_pos_right hlt hd
    rw [e] at z
    have z2 : c * b < (w * d) * b := by
      have : w * b * d = w * d * b := by rw [Int.mul_assoc, Int.mul_comm b d, ← Int.mul_assoc]
      omega
    exact Int.lt_of_mul_lt_mul_right z2 (Int.le_of_lt hb)
  exact ⟨key h1 h2 h3, key h2 h1 h3.symm⟩
/-- times c, over w -/
theorem SameQ.step {p q : Int × Int} (h : SameQ p q) {c w : Int} (hw : 0 < w) : SameQ (p.1 * c, p.2 * w) (q.1 * c, q.2 * w) := by
  obtain ⟨h1, h2, h3⟩ := h
  refine ⟨Int.mul_pos h1 hw, Int.mul_pos h2 hw, ?_⟩
  show p.1 * c * (q.2 * w) = q.1 * c * (p.2 * w)
  calc p.1 * c * (q.2 * w) = (p.1 * q.2) * (c * w) := by
        rw [Int.mul_assoc, Int.mul_assoc]; congr 1; rw [← Int.mul_assoc, Int.mul_comm c, Int.mul_assoc]
    _ = (q.1 * p.2) * (c * w) := by rw [h3]
    _ = q.1 * c * (p.2 * w) := by
        rw [Int.mul_assoc, Int.mul_assoc]; congr 1; rw [← Int.mul_assoc, Int.mul_comm p.2, Int.mul_assoc]
theorem SameQ.trans {p q r : Int × Int} (a : SameQ p q) (b : SameQ q r) : SameQ p r := by
  obtain ⟨a1, a2, a3⟩ := a
  obtain ⟨b1, b2, b3⟩ := b
  refine ⟨a1, b2, ?_⟩
  have : (p.1 * r.2) * q.2 = (r.1 * p.2) * q.2 := by
    calc (p.1 * r.2) * q.2 = (p.1 * q.2) * r.2 := by rw [Int.mul_assoc, Int.mul_comm r.2, ← Int.mul_assoc]
      _ = (q.1 * p.2) * r.2 := by rw [a3]
      _ = (q.1 * r.2) * p.2 := by rw [Int.mul_assoc, Int.mul_comm p.2, ← Int.mul_assoc]
      _ = (r.1 * q.2) * p.2 := by rw [b3]
      _ = (r.1 * p.2) * q.2 := by rw [Int.mul_assoc, Int.mul_comm q.2, ← Int.mul_assoc]
  exact Int.eq_of_mul_eq_mul_right (by omega) this
theorem SameQ.refl {p : Int × Int} (h : 0 < p.2) : SameQ p p := ⟨h, h, rfl⟩
theorem SameQ.symm {p q : Int × Int} (h : SameQ p q) : SameQ q p := ⟨h.2.1, h.1, h.2.2.symm⟩
/-- rounding down sees the value alone -/
theorem SameQ.floor {p q : Int × Int} (h : SameQ p q) (z : Int) : (z * p.2 - p.1) / p.2 = (z * q.2 - q.1) / q.2 := by
  obtain ⟨h1, h2, h3⟩ := h
  have e1 : (z * p.2 - p.1) / p.2 = (q.2 * (z * p.2 - p.1)) / (q.2 * p.2) := (Int.mul_ediv_mul_of_pos _ _ h2).symm
  have e2 : (z * q.2 - q.1) / q.2 = (p.2 * (z * q.2 - q.1)) / (p.2 * q.2) := (Int.mul_ediv_mul_of_pos _ _ h1).symm
  rw [e1, e2, Int.mul_comm p.2 q.2]
  congr 1
  rw [Int.mul_sub, Int.mul_sub, Int.mul_comm q.2 p.1, Int.mul_comm p.2 q.1, h3]
  congr 1
  rw [Int.mul_comm z p.2, Int.mul_comm z q.2, ← Int.mul_assoc, ← Int.mul_assoc, Int.mul_comm q.2 p.2]
/-- the floor of a reduced fraction -/
theorem red_floor {t b : Int} (hb : 0 < b) : (redF t b).1 / (redF t b).2 = t / b := by
  have h1 := red_l t b
  have h2 := red_r t b
  have h3 := gcdI_pos (a := t) hb
  have e := Int.mul_ediv_mul_of_pos (redF t b).1 (redF t b).2 h3
  rw [Int.mul_comm, h1, Int.mul_comm, h2] at e
  exact e.symm
end K74
set_option Elab.async false
set_option linter.all false
set_option maxRecDepth 100000
set_option maxHeartbeats 4000000
namespace K74
open PySem PySem.Spec PyProof.Rows L2
section
variable {P : Program} {w : World} {K : PySem.W.Frag} {mg : Str → Option Value} {base : Heap}
/-! ### promises -/
def spIsWhole : Sp := fun vs H Q _ => ∃ n l : Int, vs = [.int n, .int l] ∧ Q (.bl (decide (l ≤ n))) H
def spDivisor : Sp := fun vs H Q _ => ∃ a b : Int, vs = [.int a, .int b] ∧ 0 ≤ a ∧ 0 ≤ b ∧ Q (.int (gcdI a b)) H
abbrev tupF (p : Int × Int) : HO := .tup [.int p.1, .int p.2]
def spFraction : Sp := fun vs H Q _ => ∃ t b : Int, vs = [.int t, .int b] ∧ 0 < b ∧ b.natAbs < 2 ^ 8500 ∧ ∀ p, H p = none → Q (.ref p) (upd H p (tupF (redF t b)))
/-- two fractions, small -/
def Fr2 (K : PySem.W.Frag) (H : Hp) (a b : Addr) (p q : Int × Int) : Prop := SqT K H a [.int p.1, .int p.2] ∧ SqT K H b [.int q.1, .int q.2] ∧ p.1.natAbs < 2 ^ 4000 ∧ p.2.natAbs < 2 ^ 4000 ∧ q.1.natAbs < 2 ^ 4000 ∧ q.2.natAbs < 2 ^ 4000 ∧ 0 < p.2 ∧ 0 < q.2
def spTimes (K : PySem.W.Frag) : Sp := fun vs H Q _ => ∃ (a b : Addr) (p q : Int × Int), vs = [.ref a, .ref b] ∧ Fr2 K H a b p q ∧ ∀ r, H r = none → Q (.ref r) (upd H r (tupF (redF (p.1 * q.1) (p.2 * q.2))))
def spMinus (K : PySem.W.Frag) : Sp := fun vs H Q _ => ∃ (a b : Addr) (p q : Int × Int), vs = [.ref a, .ref b] ∧ Fr2 K H a b p q ∧ ∀ r, H r = none → Q (.ref r) (upd H r (tupF (redF (p.1 * q.2 - q.1 * p.2) (p.2 * q.2))))
def spOver (K : PySem.W.Frag) : Sp := fun vs H Q _ => ∃ (a b : Addr) (p q : Int × Int), vs = [.ref a, .ref b] ∧ Fr2 K H a b p q ∧ 0 < q.1 ∧ ∀ r, H r = none → Q (.ref r) (upd H r (tupF (redF (p.1 * q.2) (p.2 * q.1))))
def spBelow (K : PySem.W.Frag) : Sp := fun vs H Q _ => ∃ (a b : Addr) (p q : Int × Int), vs = [.ref a, .ref b] ∧ Fr2 K H a b p q ∧ Q (.bl (decide (p.1 * q.2 < q.1 * p.2))) H
def spFloor (K : PySem.W.Frag) : Sp := fun vs H Q _ => ∃ (a : Addr) (p : Int × Int), vs = [.ref a] ∧ SqT K H a [.int p.1, .int p.2] ∧ 0 < p.2 ∧ p.2.natAbs < 2 ^ 8500 ∧ Q (.int (p.1 / p.2)) H
theorem bd_gcd {t b : Int} {n : Nat} (hb : 0 < b) (h : b.natAbs < 2 ^ n) : (gcdI t b).natAbs < 2 ^ n := by
  have h1 := gcdI_pos (a := t) hb
  have h2 := Int.le_of_dvd hb (gcdI_dvd_r t b)
  omega
theorem bd_mul {a b : Int} {m n : Nat} (ha : a.natAbs < 2 ^ m) (hb : b.natAbs < 2 ^ n) : (a * b).natAbs < 2 ^ (m + n) := wide_lt ha hb
theorem bd_up {a : Int} {m n : Nat} (ha : a.natAbs < 2 ^ m) (h : m ≤ n) : a.natAbs < 2 ^ n := Nat.lt_of_lt_of_le ha (Nat.pow_le_pow_right (by decide) h)
/-! ### is_whole -/
theorem sc_is_whole : FnScope ["thing", "least"] ["thing", "least"] (defScope s_is_whole) := C8.fnScope_by (by decide +kernel)
theorem ok_is_whole (T : Tx K mg) : Has P w K mg base CX0 1 d_is_whole ["thing", "least"] spIsWhole := by
  refine has0 T _ at_d_is_whole sc_is_whole (fun fd F => ?_) (fun vs H Q E h => ?_) (fun cdv A outer s H vs Q E hr h => ?_)
  · obtain ⟨ds, r, b⟩ := FunD.binds1 (ps := ["thing", "least"]) F 2 1 (by simp [He.DefD.dvs, d_is_whole]) rfl (fun T kV doc pm an cdv ct us its hl hi => by
      match us, hl, its, hi with | [_, _], _, [_], _ => exact ⟨_, rfl, rfl⟩)
    cases r
    exact b
  · obtain ⟨n, l, rfl, _⟩ := h
    rfl
  · obtain ⟨n, l, rfl, k⟩ := h
    have nd := sc_is_whole.nd
    refine ⟨_, (pss_one (ps_ret (pe_and (pe_callB call_isi (by rfl) T.z_isinstance (by decide +kernel) (pa_cons (pv 0) (pa_cons (pe_bltn (v := .ty "int") (by rfl) T.z_int (by decide +kernel) rfl) pa_nil))) (pe_and (pe_not (pe_callB call_isi (by rfl) T.z_isinstance (by decide +kernel) (pa_cons (pv 0) (pa_cons (pe_bltn (v := .ty "bool") (by rfl) T.z_bool (by decide +kernel) rfl) pa_nil)))) (pe_one (pe_or (pe_cmpR op_isN (pv 1) pe_non (nomark _)) (pe_one (pe_cmpR op_ge (pv 0) (pv 1) (nomark _))))))))), ?_⟩
    refine ⟨_, rfl, _, _, _, _, true, rfl, .ty "int", .base (.int _), kit_ty (by decide +kernel), true, rfl, iteT ?_⟩
    refine ⟨_, rfl, _, _, _, _, false, rfl, .ty "bool", .base (.int _), kit_ty (by decide +kernel), false, rfl, true, rfl, iteT ?_⟩
    refine ⟨_, rfl, rfl, false, rfl, iteF ?_⟩
    exact ⟨_, rfl, _, rfl, _, _, rfl, rfl, k⟩
/-! ### divisor_of -/
abbrev N_divisor_of : List Str := ["one", "other"]
abbrev P_divisor_of : List Str := ["one", "other"]
theorem sc_divisor_of : FnScope N_divisor_of P_divisor_of (defScope s_divisor_of) := C8.fnScope_by (by decide +kernel)
theorem b_divisor_of {K : PySem.W.Frag} {fd : FuncData} (F : FunD K d_divisor_of.name d_divisor_of.qual d_divisor_of.params d_divisor_of.body d_divisor_of.scope (d_divisor_of.dvs K) (d_divisor_of.kws K) (He.fAd K d_divisor_of.at_) fd) : L2.Binds K fd P_divisor_of [] :=
  FunD.bindsN F fun _ _ _ _ _ _ us hl => match us, hl with | [_, _], _ => rfl
theorem ok_divisor_of (T : Tx K mg) : Has P w K mg base CX0 1 d_divisor_of P_divisor_of spDivisor := by
  refine has0 T _ at_d_divisor_of sc_divisor_of (fun fd F => b_divisor_of F) (fun vs H Q E h => ?_) (fun cdv A outer s H vs Q E hr h => ?_)
  · obtain ⟨a, b, rfl, _⟩ := h
    rfl
  · obtain ⟨a, b, rfl, ha, hb, k⟩ := h
    have nd := sc_divisor_of.nd
    refine ⟨_, (pss_cons (ps_while PassesOwn.never (pt_cmpR op_ne (pv 1) pe_int (nomark _))
          (pss_one (ps_par (i := 0) (j := 1) rfl nd rfl rfl (by decide) rfl rfl (pa_cons (pv 1) (pa_cons (pe_op op_mod (pv 0) (pv 1)) pa_nil)) (by rfl))))
        (pss_one (ps_ret (pv 0)))), ?_⟩
    refine ⟨fun m σ H' => ∃ x y : Int, σ = [some (.int x), some (.int y)] ∧ 0 ≤ x ∧ 0 ≤ y ∧ gcdI x y = gcdI a b ∧ H' = H ∧ m = y.toNat, ⟨_, a, b, rfl, ha, hb, rfl, rfl, rfl⟩, ?_⟩
    rintro m σ H' ⟨x, y, rfl, hx, hy, hg, rfl, rfl⟩
    refine ⟨_, rfl, rfl, _, rfl, ?_⟩
    by_cases c : y = 0
    · subst c
      refine iteNS rfl ?_
      refine ⟨_, rfl, ?_⟩
      have e : x = gcdI a b := by
        rw [← hg, gcdI_zero]
        omega
      rw [e]
      exact k
    · have e : (!decide (V.int y = V.int 0)) = true := by simp [c]
      refine ifT e ?_
      refine ⟨fun σ' H2 => ∃ x' y' : Int, σ' = [some (.int x'), some (.int y')] ∧ 0 ≤ x' ∧ 0 ≤ y' ∧ gcdI x' y' = gcdI a b ∧ H2 = H' ∧ y'.toNat < y.toNat, ?_, ?_⟩
      · rintro σ' H2 ⟨x', y', rfl, h1, h2, h3, rfl, h4⟩
        exact ⟨_, h4, x', y', rfl, h1, h2, h3, rfl, rfl⟩
      · have hy' : 0 < y := by omega
        have h1 := Int.emod_nonneg x c
        have h2 := Int.emod_lt_of_pos x hy'
        exact ⟨_, rfl, _, rfl, _, rfl, _, _, rfl, rfl, hy', _, _, rfl, _, _, rfl, hy, h1, by rw [gcdI_step hx hy']; exact hg, rfl, by omega⟩
/-! ### fraction_of -/
abbrev N_fraction_of : List Str := ["top", "bottom", "by"]
abbrev P_fraction_of : List Str := ["top", "bottom"]
theorem sc_fraction_of : FnScope N_fraction_of P_fraction_of (defScope s_fraction_of) := C8.fnScope_by (by decide +kernel)
theorem ok_fraction_of (T : Tx K mg) : Has P w K mg base CX0 2 d_fraction_of P_fraction_of spFraction := by
  have H_divisor_of : Has P w K mg base CX0 1 d_divisor_of P_divisor_of spDivisor := ok_divisor_of T
  refine has0 T _ at_d_fraction_of sc_fraction_of (fun fd F => ?_) (fun vs H Q E h => ?_) (fun cdv A outer s H vs Q E hr h => ?_)
  · obtain ⟨ds, r, b⟩ := FunD.binds1 (ps := P_fraction_of) F 2 1 (by simp [He.DefD.dvs, d_fraction_of]) rfl (fun T kV doc pm an cdv ct us its hl hi => by
      match us, hl, its, hi with | [_, _], _, [_], _ => exact ⟨_, rfl, rfl⟩)
    cases r
    exact b
  · obtain ⟨a, b, rfl, _⟩ := h
    rfl
  · obtain ⟨t, b, rfl, hb, hl, k⟩ := h
    have nd := sc_fraction_of.nd
    refine ⟨_, (pss_cons (ps_set (i := 2) nd rfl (Or.inl rfl) (pe_cl H_divisor_of hr (by first | decide | omega) T.g_divisor_of pass0 (pa_cons (pe_callB call_abs (by rfl) T.z_abs (by decide +kernel) (pa_cons (pv 0) pa_nil)) (pa_cons (pv 1) pa_nil))))
        (pss_one (ps_ret (pe_tup (pa_cons (pe_op op_fdivW (pv 0) (pv 2)) (pa_cons (pe_op op_fdivW (pv 1) (pv 2)) pa_nil)))))), ?_⟩
    have e : gcdI (if t < 0 then -t else t) b = gcdI t b := by
      rw [← gcdI_abs t b]
      congr 1
      split <;> omega
    have hg := gcdI_pos (a := t) hb
    have hd : ∀ i : Int, CDivW i (gcdI t b) := fun i => wide_div hg (bd_gcd hb hl) (by decide) (by decide)
    refine ⟨_, rfl, _, rfl, _, rfl, _, _, rfl, by split <;> omega, Int.le_of_lt hb, ?_⟩
    rw [e]
    exact ⟨_, rfl, _, rfl, _, _, rfl, rfl, hd _, _, rfl, _, rfl, _, _, rfl, rfl, hd _, (by show 2 ≤ sizeLine; decide), k⟩
/-! ### the rest -/
abbrev N_times_of : List Str := ["one", "other"]
abbrev P_times_of : List Str := ["one", "other"]
theorem sc_times_of : FnScope N_times_of P_times_of (defScope s_times_of) := C8.fnScope_by (by decide +kernel)
theorem b_times_of {K : PySem.W.Frag} {fd : FuncData} (F : FunD K d_times_of.name d_times_of.qual d_times_of.params d_times_of.body d_times_of.scope (d_times_of.dvs K) (d_times_of.kws K) (He.fAd K d_times_of.at_) fd) : L2.Binds K fd P_times_of [] :=
  FunD.bindsN F fun _ _ _ _ _ _ us hl => match us, hl with | [_, _], _ => rfl
abbrev N_minus_of : List Str := ["one", "other"]
abbrev P_minus_of : List Str := ["one", "other"]
theorem sc_minus_of : FnScope N_minus_of P_minus_of (defScope s_minus_of) := C8.fnScope_by (by decide +kernel)
theorem b_minus_of {K : PySem.W.Frag} {fd : FuncData} (F : FunD K d_minus_of.name d_minus_of.qual d_minus_of.params d_minus_of.body d_minus_of.scope (d_minus_of.dvs K) (d_minus_of.kws K) (He.fAd K d_minus_of.at_) fd) : L2.Binds K fd P_minus_of [] :=
  FunD.bindsN F fun _ _ _ _ _ _ us hl => match us, hl with | [_, _], _ => rfl
abbrev N_over_of : List Str := ["one", "other"]
abbrev P_over_of : List Str := ["one", "other"]
theorem sc_over_of : FnScope N_over_of P_over_of (defScope s_over_of) := C8.fnScope_by (by decide +kernel)
theorem b_over_of {K : PySem.W.Frag} {fd : FuncData} (F : FunD K d_over_of.name d_over_of.qual d_over_of.params d_over_of.body d_over_of.scope (d_over_of.dvs K) (d_over_of.kws K) (He.fAd K d_over_of.at_) fd) : L2.Binds K fd P_over_of [] :=
  FunD.bindsN F fun _ _ _ _ _ _ us hl => match us, hl with | [_, _], _ => rfl
abbrev N_is_below : List Str := ["one", "other"]
abbrev P_is_below : List Str := ["one", "other"]
theorem sc_is_below : FnScope N_is_below P_is_below (defScope s_is_below) := C8.fnScope_by (by decide +kernel)
theorem b_is_below {K : PySem.W.Frag} {fd : FuncData} (F : FunD K d_is_below.name d_is_below.qual d_is_below.params d_is_below.body d_is_below.scope (d_is_below.dvs K) (d_is_below.kws K) (He.fAd K d_is_below.at_) fd) : L2.Binds K fd P_is_below [] :=
  FunD.bindsN F fun _ _ _ _ _ _ us hl => match us, hl with | [_, _], _ => rfl
abbrev N_floor_of : List Str := ["one"]
abbrev P_floor_of : List Str := ["one"]
theorem sc_floor_of : FnScope N_floor_of P_floor_of (defScope s_floor_of) := C8.fnScope_by (by decide +kernel)
theorem b_floor_of {K : PySem.W.Frag} {fd : FuncData} (F : FunD K d_floor_of.name d_floor_of.qual d_floor_of.params d_floor_of.body d_floor_of.scope (d_floor_of.dvs K) (d_floor_of.kws K) (He.fAd K d_floor_of.at_) fd) : L2.Binds K fd P_floor_of [] :=
  FunD.bindsN F fun _ _ _ _ _ _ us hl => match us, hl with | [_], _ => rfl
theorem ok_times_of (T : Tx K mg) : Has P w K mg base CX0 3 d_times_of P_times_of (spTimes K) := by
  have H_fraction_of : Has P w K mg base CX0 2 d_fraction_of P_fraction_of spFraction := ok_fraction_of T
  refine has0 T _ at_d_times_of sc_times_of (fun fd F => b_times_of F) (fun vs H Q E h => ?_) (fun cdv A outer s H vs Q E hr h => ?_)
  · obtain ⟨a, b, p, q, rfl, _⟩ := h
    rfl
  · obtain ⟨a, b, p, q, rfl, ⟨ha, hb, h1, h2, h3, h4, h5, h6⟩, k⟩ := h
    have nd := sc_times_of.nd
    refine ⟨_, (pss_one (ps_ret (pe_cl H_fraction_of hr (by first | decide | omega) T.g_fraction_of pass0 (pa_cons (pe_op op_mulW (pe_ix (ixT K rfl) (pv 0) pe_int (fun _ _ => rfl)) (pe_ix (ixT K rfl) (pv 1) pe_int (fun _ _ => rfl))) (pa_cons (pe_op op_mulW (pe_ix (ixT K rfl) (pv 0) pe_int (fun _ _ => rfl)) (pe_ix (ixT K rfl) (pv 1) pe_int (fun _ _ => rfl))) pa_nil))))), ?_⟩
    refine ⟨_, rfl, _, _, _, _, rfl, rfl, ha, rfl, _, rfl, _, _, _, _, rfl, rfl, hb, rfl, _, _, rfl, rfl, wide_mul h1 h3 (by decide) (by decide) (by decide), ?_⟩
    refine ⟨_, rfl, _, _, _, _, rfl, rfl, ha, rfl, _, rfl, _, _, _, _, rfl, rfl, hb, rfl, _, _, rfl, rfl, wide_mul h2 h4 (by decide) (by decide) (by decide), ?_⟩
    exact ⟨_, _, rfl, Int.mul_pos h5 h6, bd_up (bd_mul h2 h4) (by decide), k⟩
theorem ok_minus_of (T : Tx K mg) : Has P w K mg base CX0 3 d_minus_of P_minus_of (spMinus K) := by
  have H_fraction_of : Has P w K mg base CX0 2 d_fraction_of P_fraction_of spFraction := ok_fraction_of T
  refine has0 T _ at_d_minus_of sc_minus_of (fun fd F => b_minus_of F) (fun vs H Q E h => ?_) (fun cdv A outer s H vs Q E hr h => ?_)
  · obtain ⟨a, b, p, q, rfl, _⟩ := h
    rfl
  · obtain ⟨a, b, p, q, rfl, ⟨ha, hb, h1, h2, h3, h4, h5, h6⟩, k⟩ := h
    have nd := sc_minus_of.nd
    refine ⟨_, (pss_one (ps_ret (pe_cl H_fraction_of hr (by first | decide | omega) T.g_fraction_of pass0 (pa_cons (pe_op op_sub (pe_op op_mulW (pe_ix (ixT K rfl) (pv 0) pe_int (fun _ _ => rfl)) (pe_ix (ixT K rfl) (pv 1) pe_int (fun _ _ => rfl))) (pe_op op_mulW (pe_ix (ixT K rfl) (pv 1) pe_int (fun _ _ => rfl)) (pe_ix (ixT K rfl) (pv 0) pe_int (fun _ _ => rfl)))) (pa_cons (pe_op op_mulW (pe_ix (ixT K rfl) (pv 0) pe_int (fun _ _ => rfl)) (pe_ix (ixT K rfl) (pv 1) pe_int (fun _ _ => rfl))) pa_nil))))), ?_⟩
    refine ⟨_, rfl, _, _, _, _, rfl, rfl, ha, rfl, _, rfl, _, _, _, _, rfl, rfl, hb, rfl, _, _, rfl, rfl, wide_mul h1 h4 (by decide) (by decide) (by decide), ?_⟩
    refine ⟨_, rfl, _, _, _, _, rfl, rfl, hb, rfl, _, rfl, _, _, _, _, rfl, rfl, ha, rfl, _, _, rfl, rfl, wide_mul h3 h2 (by decide) (by decide) (by decide), _, _, rfl, rfl, ?_⟩
    refine ⟨_, rfl, _, _, _, _, rfl, rfl, ha, rfl, _, rfl, _, _, _, _, rfl, rfl, hb, rfl, _, _, rfl, rfl, wide_mul h2 h4 (by decide) (by decide) (by decide), ?_⟩
    exact ⟨_, _, rfl, Int.mul_pos h5 h6, bd_up (bd_mul h2 h4) (by decide), k⟩
theorem ok_over_of (T : Tx K mg) : Has P w K mg base CX0 3 d_over_of P_over_of (spOver K) := by
  have H_fraction_of : Has P w K mg base CX0 2 d_fraction_of P_fraction_of spFraction := ok_fraction_of T
  refine has0 T _ at_d_over_of sc_over_of (fun fd F => b_over_of F) (fun vs H Q E h => ?_) (fun cdv A outer s H vs Q E hr h => ?_)
  · obtain ⟨a, b, p, q, rfl, _⟩ := h
    rfl
  · obtain ⟨a, b, p, q, rfl, ⟨ha, hb, h1, h2, h3, h4, h5, h6⟩, h7, k⟩ := h
    have nd := sc_over_of.nd
    refine ⟨_, (pss_one (ps_ret (pe_cl H_fraction_of hr (by first | decide | omega) T.g_fraction_of pass0 (pa_cons (pe_op op_mulW (pe_ix (ixT K rfl) (pv 0) pe_int (fun _ _ => rfl)) (pe_ix (ixT K rfl) (pv 1) pe_int (fun _ _ => rfl))) (pa_cons (pe_op op_mulW (pe_ix (ixT K rfl) (pv 0) pe_int (fun _ _ => rfl)) (pe_ix (ixT K rfl) (pv 1) pe_int (fun _ _ => rfl))) pa_nil))))), ?_⟩
    refine ⟨_, rfl, _, _, _, _, rfl, rfl, ha, rfl, _, rfl, _, _, _, _, rfl, rfl, hb, rfl, _, _, rfl, rfl, wide_mul h1 h4 (by decide) (by decide) (by decide), ?_⟩
    refine ⟨_, rfl, _, _, _, _, rfl, rfl, ha, rfl, _, rfl, _, _, _, _, rfl, rfl, hb, rfl, _, _, rfl, rfl, wide_mul h2 h3 (by decide) (by decide) (by decide), ?_⟩
    exact ⟨_, _, rfl, Int.mul_pos h5 h7, bd_up (bd_mul h2 h3) (by decide), k⟩
theorem ok_is_below (T : Tx K mg) : Has P w K mg base CX0 1 d_is_below P_is_below (spBelow K) := by
  refine has0 T _ at_d_is_below sc_is_below (fun fd F => b_is_below F) (fun vs H Q E h => ?_) (fun cdv A outer s H vs Q E hr h => ?_)
  · obtain ⟨a, b, p, q, rfl, _⟩ := h
    rfl
  · obtain ⟨a, b, p, q, rfl, ⟨ha, hb, h1, h2, h3, h4, h5, h6⟩, k⟩ := h
    have nd := sc_is_below.nd
    refine ⟨_, (pss_one (ps_ret (pe_cmpR op_lt (pe_op op_mulW (pe_ix (ixT K rfl) (pv 0) pe_int (fun _ _ => rfl)) (pe_ix (ixT K rfl) (pv 1) pe_int (fun _ _ => rfl))) (pe_op op_mulW (pe_ix (ixT K rfl) (pv 1) pe_int (fun _ _ => rfl)) (pe_ix (ixT K rfl) (pv 0) pe_int (fun _ _ => rfl))) (nomark _)))), ?_⟩
    refine ⟨_, rfl, _, _, _, _, rfl, rfl, ha, rfl, _, rfl, _, _, _, _, rfl, rfl, hb, rfl, _, _, rfl, rfl, wide_mul h1 h4 (by decide) (by decide) (by decide), ?_⟩
    refine ⟨_, rfl, _, _, _, _, rfl, rfl, hb, rfl, _, rfl, _, _, _, _, rfl, rfl, ha, rfl, _, _, rfl, rfl, wide_mul h3 h2 (by decide) (by decide) (by decide), ?_⟩
    exact ⟨_, _, rfl, rfl, k⟩
theorem ok_floor_of (T : Tx K mg) : Has P w K mg base CX0 1 d_floor_of P_floor_of (spFloor K) := by
  refine has0 T _ at_d_floor_of sc_floor_of (fun fd F => b_floor_of F) (fun vs H Q E h => ?_) (fun cdv A outer s H vs Q E hr h => ?_)
  · obtain ⟨a, p, rfl, _⟩ := h
    rfl
  · obtain ⟨a, p, rfl, ha, h2, h3, k⟩ := h
    have nd := sc_floor_of.nd
    refine ⟨_, (pss_one (ps_ret (pe_op op_fdivW (pe_ix (ixT K rfl) (pv 0) pe_int (fun _ _ => rfl)) (pe_ix (ixT K rfl) (pv 0) pe_int (fun _ _ => rfl))))), ?_⟩
    exact ⟨_, rfl, _, _, _, _, rfl, rfl, ha, rfl, _, rfl, _, _, _, _, rfl, rfl, ha, rfl, _, _, rfl, rfl, wide_div h2 h3 (by decide) (by decide), k⟩
end
end K74
/-! Trees of names as lists of (name, parent): paths, what stands below, sums. -/
set_option linter.all false
namespace K74
section
variable {α : Type} [DecidableEq α] {r0 : α}

/-- rows in reverse (the last one first): each name is new, its parent is the root or stands behind -/
def WfR (r0 : α) : List (α × α) → Prop
  | [] => True
  | (n, p) :: R => n ≠ r0 ∧ n ∉ R.map (·.1) ∧ (p = r0 ∨ p ∈ R.map (·.1)) ∧ WfR r0 R
def pathR : List (α × α) → α → List α
  | [], _ => []
  | (n, p) :: R, x => if n = x then pathR R p ++ [n] else pathR R x
/-- what stands at or below n, by rows -/
def belowR (n : α) : List (α × α) → List α
  | [] => [n]
  | (x, p) :: R => if p ∈ belowR n R then belowR n R ++ [x] else belowR n R
def InB (r0 : α) (R : List (α × α)) (n x : α) : Prop := n = r0 ∨ n ∈ pathR R x
instance (R : List (α × α)) (n x : α) : Decidable (InB r0 R n x) := by unfold InB; exact inferInstance

theorem pathR_none {R : List (α × α)} {x : α} (h : x ∉ R.map (·.1)) : pathR R x = [] := by
  induction R with
  | nil => rfl
  | cons q R ih =>
    obtain ⟨n, p⟩ := q
    simp only [List.map_cons, List.mem_cons, not_or] at h
    unfold pathR
    rw [if_neg (fun e => h.1 e.symm)]
    exact ih h.2
theorem root_not {R : List (α × α)} (w : WfR r0 R) : r0 ∉ R.map (·.1) := by
  induction R with
  | nil => simp
  | cons q R ih =>
    obtain ⟨n, p⟩ := q
    obtain ⟨h1, h2, h3, h4⟩ := w
    simp only [List.map_cons, List.mem_cons, not_or]
    exact ⟨fun e => h1 e.symm, ih h4⟩
theorem path_root {R : List (α × α)} (w : WfR r0 R) : pathR R r0 = [] := pathR_none (root_not w)
theorem parent_in {R : List (α × α)} {x p : α} (w : WfR r0 R) (h : (x, p) ∈ R) : p = r0 ∨ p ∈ R.map (·.1) := by
  induction R with
  | nil => cases h
  | cons q R ih =>
    obtain ⟨n, q⟩ := q
    obtain ⟨h1, h2, h3, h4⟩ := w
    rcases List.mem_cons.mp h with e | h
    · cases e
      exact h3.imp id fun m => List.mem_cons_of_mem _ m
    · exact (ih h4 h).imp id fun m => List.mem_cons_of_mem _ m
theorem path_step {R : List (α × α)} {x p : α} (w : WfR r0 R) (h : (x, p) ∈ R) : pathR R x = pathR R p ++ [x] := by
  induction R with
  | nil => cases h
  | cons q R ih =>
    obtain ⟨n, q⟩ := q
    obtain ⟨h1, h2, h3, h4⟩ := w
    rcases List.mem_cons.mp h with e | h
    · cases e
      unfold pathR
      rw [if_pos rfl]
      have e2 : ¬ x = p := fun e => by
        rcases h3 with z | z
        · exact h1 (e.trans z)
        · exact h2 (e ▸ z)
      rw [if_neg e2]
    · have hx : x ∈ R.map (·.1) := List.mem_map.mpr ⟨_, h, rfl⟩
      have e1 : ¬ n = x := fun e => h2 (e ▸ hx)
      have e2 : ¬ n = p := fun e => by
        rcases parent_in h4 h with z | z
        · exact h1 (e.trans z)
        · exact h2 (e ▸ z)
      unfold pathR
      rw [if_neg e1, if_neg e2]
      exact ih h4 h
theorem path_sub {R : List (α × α)} (x y : α) (h : y ∈ pathR R x) : y ∈ R.map (·.1) := by
  induction R generalizing x with
  | nil => cases h
  | cons q R ih =>
    obtain ⟨n, p⟩ := q
    unfold pathR at h
    split at h
    · rcases List.mem_append.mp h with h | h
      · exact List.mem_cons_of_mem _ (ih _ h)
      · simp at h
        subst h
        exact List.mem_cons_self
    · exact List.mem_cons_of_mem _ (ih _ h)
theorem path_last {R : List (α × α)} {x : α} (h : x ∈ R.map (·.1)) : ∃ l, pathR R x = l ++ [x] := by
  induction R with
  | nil => cases h
  | cons q R ih =>
    obtain ⟨n, p⟩ := q
    unfold pathR
    by_cases e : n = x
    · rw [if_pos e]
      exact ⟨_, by rw [e]⟩
    · rw [if_neg e]
      exact ih ((List.mem_cons.mp h).resolve_left fun z => e z.symm)
theorem path_self {R : List (α × α)} {x : α} (h : x ∈ R.map (·.1)) : x ∈ pathR R x := by
  obtain ⟨l, e⟩ := path_last h
  rw [e]
  simp
theorem path_ne {R : List (α × α)} {x : α} (h : x ∈ R.map (·.1)) : pathR R x ≠ [] := by
  obtain ⟨l, e⟩ := path_last h
  rw [e]
  simp
/-- a name of the path: its own path is the beginning -/
theorem path_cut {R : List (α × α)} (w : WfR r0 R) (x y : α) (h : y ∈ pathR R x) : ∃ l, pathR R x = pathR R y ++ l := by
  induction R generalizing x with
  | nil => cases h
  | cons q R ih =>
    obtain ⟨n, p⟩ := q
    obtain ⟨h1, h2, h3, h4⟩ := w
    by_cases e : n = x
    · subst e
      have hp : pathR ((n, p) :: R) n = pathR R p ++ [n] := by
        show (if n = n then _ else _) = _
        rw [if_pos rfl]
      rw [hp] at h ⊢
      by_cases ey : n = y
      · subst ey
        exact ⟨[], by rw [hp]; simp⟩
      · have hy : y ∈ pathR R p := (List.mem_append.mp h).resolve_right fun z => ey (List.mem_singleton.mp z).symm
        obtain ⟨l, el⟩ := ih h4 p hy
        refine ⟨l ++ [n], ?_⟩
        have e2 : pathR ((n, p) :: R) y = pathR R y := by
          show (if n = y then _ else _) = _
          rw [if_neg ey]
        rw [e2, el, List.append_assoc]
    · have e1 : pathR ((n, p) :: R) x = pathR R x := by
        show (if n = x then _ else _) = _
        rw [if_neg e]
      rw [e1] at h ⊢
      have ey : ¬ n = y := fun z => h2 (z ▸ path_sub x y h)
      have e2 : pathR ((n, p) :: R) y = pathR R y := by
        show (if n = y then _ else _) = _
        rw [if_neg ey]
      rw [e2]
      exact ih h4 x h
theorem path_nodup {R : List (α × α)} (w : WfR r0 R) (x : α) : (pathR R x).Nodup := by
  induction R generalizing x with
  | nil => exact List.nodup_nil
  | cons q R ih =>
    obtain ⟨n, p⟩ := q
    obtain ⟨h1, h2, h3, h4⟩ := w
    unfold pathR
    split
    · refine List.nodup_append.mpr ⟨ih h4 p, by simp, fun a ha b hb e => ?_⟩
      simp at hb
      subst hb
      exact h2 (e ▸ path_sub p a ha)
    · exact ih h4 x
/-- below, by membership -/
theorem below_mem {R : List (α × α)} (w : WfR r0 R) (n y : α) : y ∈ belowR n R ↔ y = n ∨ (y ∈ R.map (·.1) ∧ InB r0 R n y) := by
  induction R generalizing y with
  | nil => simp [belowR]
  | cons q R ih =>
    obtain ⟨x, p⟩ := q
    have w0 := w
    obtain ⟨h1, h2, h3, h4⟩ := w
    have ih := ih h4
    have key : (p ∈ belowR n R) ↔ (InB r0 ((x, p) :: R) n x ∧ x ≠ n) ∨ (x = n ∧ p = n) ∨ (x = n ∧ p ∈ belowR n R) := by
      have e : pathR ((x, p) :: R) x = pathR R p ++ [x] := by
        show (if x = x then _ else _) = _
        rw [if_pos rfl]
      rw [ih p]
      unfold InB
      rw [e]
      constructor
      · rintro (h | ⟨h, h'⟩)
        · by_cases z : x = n
          · exact .inr (.inl ⟨z, h⟩)
          · refine .inl ⟨?_, z⟩
            rcases h3 with r | r
            · exact .inl (h ▸ r)
            · exact .inr (List.mem_append_left _ (h ▸ path_self r))
        · by_cases z : x = n
          · exact .inr (.inr ⟨z, .inr ⟨h, h'⟩⟩)
          · exact .inl ⟨h'.imp id fun m => List.mem_append_left _ m, z⟩
      · rintro (⟨h, z⟩ | ⟨_, h⟩ | ⟨_, h⟩)
        · rcases h with h | h
          · rcases h3 with r | r
            · exact .inl (r.trans h.symm)
            · exact .inr ⟨r, .inl h⟩
          · rcases List.mem_append.mp h with h | h
            · have hp : p ∈ R.map (·.1) := by
                apply Classical.byContradiction
                intro q
                rw [pathR_none q] at h
                cases h
              exact .inr ⟨hp, .inr h⟩
            · simp at h
              exact absurd h.symm z
        · exact .inl h
        · exact h
    have other : ∀ z, z ≠ x → (InB r0 ((x, p) :: R) n z ↔ InB r0 R n z) := fun z hz => by
      unfold InB
      have e : pathR ((x, p) :: R) z = pathR R z := by
        show (if x = z then _ else _) = _
        rw [if_neg fun e => hz e.symm]
      rw [e]
    have nx : x ≠ n → ¬ (x ∈ belowR n R) := fun z m => by
      rcases (ih x).mp m with e | ⟨e, _⟩
      · exact z e
      · exact h2 e
    by_cases hy : y = x
    · subst hy
      show (y ∈ if p ∈ belowR n R then belowR n R ++ [y] else belowR n R) ↔ _
      by_cases c : p ∈ belowR n R
      · rw [if_pos c]
        rcases key.mp c with ⟨k, _⟩ | ⟨k, _⟩ | ⟨k, _⟩
        · exact ⟨fun _ => .inr ⟨List.mem_cons_self, k⟩, fun _ => by simp⟩
        · exact ⟨fun _ => .inl k, fun _ => by simp⟩
        · exact ⟨fun _ => .inl k, fun _ => by simp⟩
      · rw [if_neg c]
        constructor
        · intro m
          exact .inl (Classical.byContradiction fun z => nx z m)
        · rintro (e | ⟨_, k⟩)
          · exact (ih y).mpr (.inl e)
          · by_cases z : y = n
            · exact (ih y).mpr (.inl z)
            · exact absurd (key.mpr (.inl ⟨k, z⟩)) c
    · have s : (y ∈ belowR n ((x, p) :: R)) ↔ y ∈ belowR n R := by
        show (y ∈ if p ∈ belowR n R then belowR n R ++ [x] else belowR n R) ↔ _
        split
        · simp [hy]
        · exact Iff.rfl
      rw [s, ih y, other y hy]
      simp [hy]
/-! ### children, leaves -/
def kids (ps : List (α × α)) (n : α) : List α := (ps.filter fun q => decide (q.2 = n)).map (·.1)
def leavesOf (ps : List (α × α)) : List α := (ps.map (·.1)).filter fun x => decide (x ∉ ps.map (·.2))
theorem kids_nil {ps : List (α × α)} {n : α} : kids ps n = [] ↔ n ∉ ps.map (·.2) := by
  unfold kids
  rw [List.map_eq_nil_iff, List.filter_eq_nil_iff]
  simp only [List.mem_map, decide_eq_true_eq, not_exists, not_and]
theorem mem_kids {ps : List (α × α)} {n c : α} : c ∈ kids ps n ↔ (c, n) ∈ ps := by
  unfold kids
  simp only [List.mem_map, List.mem_filter, decide_eq_true_eq]
  constructor
  · rintro ⟨⟨a, b⟩, ⟨h, e⟩, e2⟩
    cases e
    cases e2
    exact h
  · intro h
    exact ⟨_, ⟨h, rfl⟩, rfl⟩
/-- what stands strictly below n stands at or below exactly one child of n -/
theorem below_kid {R : List (α × α)} (w : WfR r0 R) {n y : α} (hy : y ∈ R.map (·.1)) (hb : InB r0 R n y) (hne : y ≠ n) : ∃ c, (c, n) ∈ R ∧ c ∈ pathR R y := by
  induction R generalizing y with
  | nil => cases hy
  | cons q R ih =>
    obtain ⟨x, p⟩ := q
    have w0 := w
    obtain ⟨h1, h2, h3, h4⟩ := w
    by_cases e : x = y
    · subst e
      have ep : pathR ((x, p) :: R) x = pathR R p ++ [x] := by
        show (if x = x then _ else _) = _
        rw [if_pos rfl]
      by_cases c : p = n
      · subst c
        exact ⟨x, List.mem_cons_self, by rw [ep]; simp⟩
      · have hp : InB r0 R n p := by
          rcases hb with z | z
          · exact .inl z
          · rw [ep] at z
            exact .inr ((List.mem_append.mp z).resolve_right fun q => hne (List.mem_singleton.mp q).symm)
        have hpm : p ∈ R.map (·.1) := by
          rcases h3 with r | r
          · rcases hp with z | z
            · exact absurd (r.trans z.symm) c
            · rw [r, path_root h4] at z
              cases z
          · exact r
        obtain ⟨d, hd, hd2⟩ := ih h4 hpm hp c
        exact ⟨d, List.mem_cons_of_mem _ hd, by rw [ep]; exact List.mem_append_left _ hd2⟩
    · have ep : pathR ((x, p) :: R) y = pathR R y := by
        show (if x = y then _ else _) = _
        rw [if_neg e]
      have hy2 : y ∈ R.map (·.1) := (List.mem_cons.mp hy).resolve_left fun z => e z.symm
      have hb2 : InB r0 R n y := by
        unfold InB at hb ⊢
        rw [ep] at hb
        exact hb
      obtain ⟨d, hd, hd2⟩ := ih h4 hy2 hb2 hne
      exact ⟨d, List.mem_cons_of_mem _ hd, by rw [ep]; exact hd2⟩
theorem wf_nodup {R : List (α × α)} (w : WfR r0 R) : (R.map (·.1)).Nodup := by
  induction R with
  | nil => exact List.nodup_nil
  | cons q R ih =>
    obtain ⟨n, p⟩ := q
    obtain ⟨h1, h2, h3, h4⟩ := w
    exact List.nodup_cons.mpr ⟨h2, ih h4⟩
theorem parent_one {R : List (α × α)} (w : WfR r0 R) {x p q : α} (h1 : (x, p) ∈ R) (h2 : (x, q) ∈ R) : p = q := by
  have a := path_step w h1
  have nd := wf_nodup w
  clear a
  induction R with
  | nil => cases h1
  | cons z R ih =>
    obtain ⟨n, r⟩ := z
    obtain ⟨k1, k2, k3, k4⟩ := w
    rcases List.mem_cons.mp h1 with e1 | e1
    · rcases List.mem_cons.mp h2 with e2 | e2
      · cases e1
        cases e2
        rfl
      · cases e1
        exact absurd (List.mem_map.mpr ⟨_, e2, rfl⟩) k2
    · rcases List.mem_cons.mp h2 with e2 | e2
      · cases e2
        exact absurd (List.mem_map.mpr ⟨_, e1, rfl⟩) k2
      · exact ih k4 e1 e2 (List.nodup_cons.mp nd).2
/-- two children of one parent have nothing in common below -/
theorem kids_apart {R : List (α × α)} (w : WfR r0 R) {n c d y : α} (hc : (c, n) ∈ R) (hd : (d, n) ∈ R) (h1 : c ∈ pathR R y) (h2 : d ∈ pathR R y) : c = d := by
  obtain ⟨l1, e1⟩ := path_cut w y c h1
  obtain ⟨l2, e2⟩ := path_cut w y d h2
  rw [path_step w hc] at e1
  rw [path_step w hd] at e2
  rw [e1, List.append_assoc, List.append_assoc] at e2
  have e3 := List.append_cancel_left e2
  simp only [List.singleton_append, List.cons.injEq] at e3
  exact e3.1
/-- where a name stands in a path, the rest begins behind it -/
theorem rest_of {R : List (α × α)} (w : WfR r0 R) {n y : α} (h : InB r0 R n y) : pathR R y = pathR R n ++ (pathR R y).drop (pathR R n).length := by
  rcases h with h | h
  · subst h
    rw [path_root w]
    rfl
  · obtain ⟨l, e⟩ := path_cut w y n h
    rw [e]
    simp
theorem rest_kid {R : List (α × α)} (w : WfR r0 R) {n c y : α} (hc : (c, n) ∈ R) (h : c ∈ pathR R y) : (pathR R y).drop (pathR R n).length = c :: (pathR R y).drop (pathR R c).length := by
  obtain ⟨l, e⟩ := path_cut w y c h
  have es := path_step w hc
  rw [e, es]
  simp
end
end K74
set_option Elab.async false
set_option linter.all false
set_option maxRecDepth 100000
set_option maxHeartbeats 4000000
/-! Data: rows, names, sizes; what stands for them on the heap. -/
namespace K74
open PySem PySem.Spec PyProof.Rows L2
theorem inV_str (x : Str) (ys : List Str) : inV (.str x) (ys.map V.str) = decide (x ∈ ys) := by
  unfold inV
  rw [List.any_map]
  induction ys with
  | nil => rfl
  | cons y ys ih =>
    rw [List.any_cons, ih]
    show ((y == x) || _) = _
    by_cases h : y = x
    · simp [h]
    · have e : (y == x) = false := by simpa using h
      rw [e, Bool.false_or]
      have e2 : ¬ x = y := fun z => h z.symm
      simp [e2]
theorem flat_strs (ys : List Str) : (ys.map V.str).all flatV = true := by
  rw [List.all_map, List.all_eq_true]
  intro x _
  rfl
theorem map_inj {α β : Type} {f : α → β} (hf : ∀ a b, f a = f b → a = b) {xs ys : List α} (h : xs.map f = ys.map f) : xs = ys := by
  induction xs generalizing ys with
  | nil => cases ys with
    | nil => rfl
    | cons _ _ => cases h
  | cons x xs ih => cases ys with
    | nil => cases h
    | cons y ys =>
      simp only [List.map_cons, List.cons.injEq] at h
      rw [hf _ _ h.1, ih h.2]
theorem filterMap_some {α β : Type} (f : α → β) (xs : List α) : xs.filterMap (fun x => some (f x)) = xs.map f := by
  induction xs with
  | nil => rfl
  | cons x xs ih =>
    rw [List.filterMap_cons, List.map_cons, ih]
theorem filterMap_if {α β : Type} (q : α → Bool) (f : α → β) (xs : List α) : xs.filterMap (fun x => if q x = true then some (f x) else none) = (xs.filter q).map f := by
  induction xs with
  | nil => rfl
  | cons x xs ih =>
    rw [List.filterMap_cons, List.filter_cons]
    cases h : q x with
    | true => simp [ih]
    | false => simp [ih]
structure RowD where
  nm : Str
  par : Str
  wt : Int
  cap : Option (Int × Int)
def CapR (K : PySem.W.Frag) (H : Hp) (v : V) : Option (Int × Int) → Prop
  | none => v = .non
  | some q => ∃ c, v = .ref c ∧ SqT K H c [.int q.1, .int q.2]
def RowR (K : PySem.W.Frag) (H : Hp) (v : V) (r : RowD) : Prop := ∃ t cv, v = .ref t ∧ SqT K H t [.str r.nm, .str r.par, .int r.wt, cv] ∧ CapR K H cv r.cap
def RowsAt (K : PySem.W.Frag) (H : Hp) (a : Addr) (rs : List RowD) : Prop := ∃ tr : List (V × RowD), SqL K H a (tr.map (·.1)) ∧ rs = tr.map (·.2) ∧ ∀ p, p ∈ tr → RowR K H p.1 p.2
section
variable {K : PySem.W.Frag} {H H' : Hp}
theorem RowR.keep (e : KeepT H H') {v : V} {r : RowD} (h : RowR K H v r) : RowR K H' v r := by
  obtain ⟨t, cv, h1, h2, h3⟩ := h
  refine ⟨t, cv, h1, e.t h2, ?_⟩
  cases hc : r.cap with
  | none =>
    rw [hc] at h3
    exact h3
  | some q =>
    rw [hc] at h3
    obtain ⟨c, h4, h5⟩ := h3
    exact ⟨c, h4, e.t h5⟩
theorem RowsAt.ex (e : Ex H H') {a : Addr} {rs : List RowD} (h : RowsAt K H a rs) : RowsAt K H' a rs := by
  obtain ⟨tr, h1, h2, h3⟩ := h
  exact ⟨tr, e.l h1, h2, fun p hp => (h3 p hp).keep e.keepT⟩
theorem RowsAt.of {a : Addr} {ys : List V} {rs : List RowD} (h : SqL K H a ys) (r : Reps (RowR K) H ys rs) : RowsAt K H a rs := by
  obtain ⟨tr, rfl, e, h3⟩ := r
  exact ⟨tr, h, e, h3⟩
end
/-! ### the tree as plain data -/
abbrev nms (rs : List RowD) : List Str := rs.map (·.nm)
abbrev prs (rs : List RowD) : List (Str × Str) := rs.map fun r => (r.nm, r.par)
abbrev RR (rs : List RowD) : List (Str × Str) := (prs rs).reverse
def NameOk (x : Str) : Prop := 1 ≤ x.length ∧ x.length ≤ 8 ∧ ∀ c, c ∈ x.cps.toList → c ∈ ("abcdefghijklmnopqrstuvwxyz" : Str).cps.toList
def CapOk : Option (Int × Int) → Prop
  | none => True
  | some q => 0 ≤ q.1 ∧ 0 < q.2 ∧ gcdI q.1 q.2 = 1
structure RowOk (r : RowD) : Prop where
  nm : NameOk r.nm
  wt : 1 ≤ r.wt
  cap : CapOk r.cap
theorem NameOk.str {x : Str} (h : NameOk x) : PyData.strOk x = true := by
  have k : ∀ c, c ∈ ("abcdefghijklmnopqrstuvwxyz" : Str).cps.toList → c < 0x110000 := by decide +kernel
  unfold PyData.strOk
  rw [Array.all_eq_true']
  intro c hc
  exact decide_eq_true (k c (h.2.2 c (Array.mem_def.mp hc)))
structure WfD (rs : List RowD) : Prop where
  wf : WfR ("" : Str) (RR rs)
  one : 1 ≤ rs.length
  few : rs.length ≤ 8
  ok : ∀ r, r ∈ rs → RowOk r
theorem mem_RR {rs : List RowD} {x p : Str} : (x, p) ∈ RR rs ↔ ∃ r, r ∈ rs ∧ r.nm = x ∧ r.par = p := by
  simp [RR, prs]
theorem RR_names {rs : List RowD} {x : Str} : x ∈ (RR rs).map (·.1) ↔ x ∈ nms rs := by
  simp [RR, prs, nms]
theorem WfD.nd {rs : List RowD} (w : WfD rs) : (nms rs).Nodup := by
  have h := wf_nodup w.wf
  rw [RR, List.map_reverse] at h
  have h2 := (List.reverse_perm _).nodup_iff.mp h
  simpa [prs, nms, Function.comp_def] using h2
theorem nodup_le {α : Type} [DecidableEq α] {xs ys : List α} (h : xs.Nodup) (s : ∀ x, x ∈ xs → x ∈ ys) : xs.length ≤ ys.length := by
  induction xs generalizing ys with
  | nil => exact Nat.zero_le _
  | cons x xs ih =>
    have hx := s x List.mem_cons_self
    have h2 := List.nodup_cons.mp h
    have := ih (ys := ys.erase x) h2.2 fun y hy => by
      have hne : y ≠ x := fun e => h2.1 (e ▸ hy)
      exact (List.mem_erase_of_ne hne).mpr (s y (List.mem_cons_of_mem _ hy))
    rw [List.length_erase_of_mem hx] at this
    have : 0 < ys.length := List.length_pos_of_mem hx
    simp only [List.length_cons]
    omega
theorem WfD.path_le {rs : List RowD} (w : WfD rs) (x : Str) : (pathR (RR rs) x).length ≤ 8 := by
  have h := nodup_le (path_nodup w.wf x) (ys := nms rs) fun y hy => RR_names.mp (path_sub x y hy)
  have := w.few
  rw [List.length_map] at h
  omega
/-! ### dicts of names and ints -/
def fm (ns : List Str) (S : Str → Int) : List (Key × V) := ns.map fun n => (Sum.inr n, V.int (S n))
def setS (S : Str → Int) (n : Str) (v : Int) : Str → Int := fun x => if x = n then v else S x
theorem fm_get {ns : List Str} {S : Str → Int} {n : Str} (h : n ∈ ns) : valV (fm ns S) (Sum.inr n) = some (.int (S n)) := by
  induction ns with
  | nil => cases h
  | cons m ns ih =>
    by_cases e : m = n
    · subst e
      exact valV_pos rfl
    · show valV ((Sum.inr m, V.int (S m)) :: fm ns S) _ = _
      rw [valV_neg (fun z => e (Sum.inr.inj z))]
      exact ih ((List.mem_cons.mp h).resolve_left fun z => e z.symm)
theorem fm_none {ns : List Str} {S : Str → Int} {n : Str} (h : n ∉ ns) : valV (fm ns S) (Sum.inr n) = none := by
  induction ns with
  | nil => rfl
  | cons m ns ih =>
    show valV ((Sum.inr m, V.int (S m)) :: fm ns S) _ = _
    rw [valV_neg (fun z => h (by rw [← Sum.inr.inj z]; exact List.mem_cons_self))]
    exact ih fun z => h (List.mem_cons_of_mem _ z)
theorem fm_valV (ns : List Str) (S : Str → Int) (n : Str) : valV (fm ns S) (Sum.inr n) = if n ∈ ns then some (.int (S n)) else none := by
  by_cases h : n ∈ ns
  · rw [if_pos h, fm_get h]
  · rw [if_neg h, fm_none h]
theorem fm_put {ns : List Str} {S : Str → Int} {n : Str} {v : Int} (h : n ∈ ns) : putK (fm ns S) (Sum.inr n) (.int v) = fm ns (setS S n v) := by
  have a : ((fm ns S).any fun kv => decide (kv.1 = Sum.inr n)) = true := by
    rw [valV_any, fm_get h]
    rfl
  unfold putK
  rw [if_pos a]
  unfold fm
  rw [List.map_map]
  apply List.map_congr_left
  intro x _
  show (if (Sum.inr x : Key) = Sum.inr n then _ else _) = _
  by_cases e : x = n
  · rw [if_pos (by rw [e])]
    simp [setS, e]
  · rw [if_neg (fun z => e (Sum.inr.inj z))]
    simp [setS, e]
theorem fm_congr {ns : List Str} {S S' : Str → Int} (h : ∀ n, n ∈ ns → S n = S' n) : fm ns S = fm ns S' := by
  unfold fm
  apply List.map_congr_left
  intro x hx
  rw [h x hx]
theorem fm_putNew {ns : List Str} {S : Str → Int} {n : Str} {v : Int} (h : n ∉ ns) : putK (fm ns S) (Sum.inr n) (.int v) = fm (ns ++ [n]) (setS S n v) := by
  rw [putK_new _ (fm_none h)]
  have e : fm ns S = fm ns (setS S n v) := fm_congr fun m hm => by
    have : m ≠ n := fun e => h (e ▸ hm)
    simp [setS, this]
  rw [e]
  unfold fm
  simp [setS]
theorem fm_len (ns : List Str) (S : Str → Int) : (fm ns S).length = ns.length := by simp [fm]
theorem fm_merge {ns more : List Str} {S : Str → Int} (h : (ns ++ more).Nodup) : mergeK (fm ns S) (fm more S) = fm (ns ++ more) S := by
  induction more generalizing ns with
  | nil => simp [fm, mergeK]
  | cons m more ih =>
    have hm : m ∉ ns := by
      have := (List.nodup_append.mp h).2.2
      intro z
      exact this m z m List.mem_cons_self rfl
    show mergeK (putK (fm ns S) (Sum.inr m) (.int (S m))) (fm more S) = _
    rw [fm_putNew hm]
    have e : fm (ns ++ [m]) (setS S m (S m)) = fm (ns ++ [m]) S := fm_congr fun x _ => by
      by_cases e : x = m
      · simp [setS, e]
      · simp [setS, e]
    rw [e, ih (by simpa [List.append_assoc] using h)]
    simp [List.append_assoc]
theorem fm_mergeNil {more : List Str} {S : Str → Int} (h : more.Nodup) : mergeK [] (fm more S) = fm more S := by
  have := fm_merge (ns := []) (S := S) (more := more) (by simpa using h)
  rw [List.nil_append] at this
  exact this
theorem get_fm {H : Hp} {d : Addr} {ns : List Str} {S : Str → Int} {n : Str} (h : Rd H d (.dK (fm ns S))) (hn : n ∈ ns) : DGet H d (.str n) (some (.int (S n))) := .inl ⟨_, Sum.inr n, h, rfl, (fm_get hn).symm⟩
theorem get_fmO {H : Hp} {d : Addr} {ns : List Str} {S : Str → Int} (n : Str) (h : Rd H d (.dK (fm ns S))) : DGet H d (.str n) (if n ∈ ns then some (.int (S n)) else none) := .inl ⟨_, Sum.inr n, h, rfl, (fm_valV ns S n).symm⟩
/-! ### what the law's charged gives -/
def chg (rs : List RowD) (ls : List Str) (S : Str → Int) (n : Str) : Int := ((ls.filter fun l => decide (l ∈ belowR n (RR rs))).map S).sum
theorem fm_filterMap (ls : List Str) (S : Str → Int) (q : Str → Bool) : (fm ls S).filterMap (fun kv => match kv.1 with | .inr n => if q n = true then some (V.int (S n)) else none | .inl _ => none) = (((ls.filter q).map S).map V.int) := by
  induction ls with
  | nil => rfl
  | cons l ls ih =>
    show List.filterMap _ ((Sum.inr l, V.int (S l)) :: fm ls S) = _
    rw [List.filterMap_cons]
    cases hq : q l with
    | true => simp [hq, List.filter_cons, ih]
    | false => simp [hq, List.filter_cons, ih]
/-! ### walks over rows -/
theorem RowsAt.sq {K : PySem.W.Frag} {H : Hp} {a : Addr} {rs : List RowD} (h : RowsAt K H a rs) : ∃ xs, SqL K H a xs := by
  obtain ⟨tr, h, _⟩ := h
  exact ⟨_, h⟩
section
variable {K : PySem.W.Frag} {σ : L2.St} {H1 : Hp} {D a : Addr} {g : TG} {tb : TS} {tt : TT} {te : TE} {vs : List Nat} {Qd : Hp → Prop} {rs : List RowD} {De : Ends}
theorem lc_rows (h : RowsAt K H1 a rs) (hz : rs.length ≤ 8) (f : RowD → Option V) (hD : H1 D = none)
    (turn : ∀ (i : Nat) (t : Addr) (r : RowD) (cv : V) (H' : Hp), rs[i]? = some r → Ex H1 H' → SqT K H' t [.str r.nm, .str r.par, .int r.wt, cv] → CapR K H' cv r.cap → ∀ Q : Option V → Hp → Prop, (∀ H4, Ex H' H4 → Q (f r) H4) →
      g (.ref t) (wipe σ vs) H' fun σ2 H2 => wipe σ2 vs = wipe σ vs ∧ tt σ2 H2 fun b H3 => if b = true then te σ2 H3 fun y H4 => Q (some y) H4 else Q none H3)
    (done : ∀ H', Ex H1 H' → H' D = some (.lst (rs.filterMap f)) → Qd H') :
    ∃ W : Nat → Nat → Hp → Prop, (∃ m, W 0 m (upd H1 D (.lst []))) ∧ ∀ i m H, W i m H →
      ((Itl K a).stop i H ∧ Qd H) ∨ ((Itl K a).go i H ∧ ∃ Nx : Hp → Prop, (∀ H', Nx H' → ∃ m', m' < m ∧ W (i + 1) m' H') ∧ ∀ x H', (Itl K a).yld i H x H' → g x (wipe σ vs) H' fun σ2 H2 => wipe σ2 vs = wipe σ vs ∧ tt σ2 H2 fun b H3 =>
        if b = true then te σ2 H3 fun y H4 => ∃ acc, H4 D = some (.lst acc) ∧ acc.length < sizeLine ∧ Nx (upd H4 D (.lst (acc ++ [y]))) else Nx H3) := by
  obtain ⟨tr, hs, hrs, hR⟩ := h
  have hz2 : tr.length ≤ 10000 := by
    rw [hrs, List.length_map] at hz
    omega
  refine lc_b tr (·.1) (fun p => f p.2) hD hs hz2 (fun i b H' hb e Q q => ?_) (fun H2 e2 h2 => done H2 e2 ?_)
  · obtain ⟨t, cv, h3, hT, hc⟩ := (hR b (List.mem_of_getElem? hb)).keep e.keepT
    rw [h3]
    exact turn i t b.2 cv H' (by rw [hrs, List.getElem?_map, hb]; rfl) e hT hc Q q
  · rw [h2, hrs, List.filterMap_map]
    rfl
theorem for_rows {H0 : Hp} (h : RowsAt K H0 a rs) (Pv : Nat → L2.St → Hp → Prop) (h0 : Pv 0 σ H1) (he : ∀ i σ H', Pv i σ H' → Ex H0 H')
    (hs : ∀ (i : Nat) (t : Addr) (r : RowD) (cv : V) (σ : L2.St) (H' : Hp), rs[i]? = some r → Pv i σ H' → SqT K H' t [.str r.nm, .str r.par, .int r.wt, cv] → CapR K H' cv r.cap → g (.ref t) σ H' fun σ2 H2 => tb { De with nx := Pv (i + 1), ct := Pv (i + 1), bk := De.nx } σ2 H2)
    (hd : ∀ σ H', Pv rs.length σ H' → De.nx σ H') :
    ∃ W : Nat → Nat → L2.St → Hp → Prop, (∃ m, W 0 m σ H1) ∧ ∀ i m σ H, W i m σ H →
      ((Itl K a).stop i H ∧ De.nx σ H) ∨ ((Itl K a).go i H ∧ ∃ N : L2.St → Hp → Prop, (∀ σ' H', N σ' H' → ∃ m', m' < m ∧ W (i + 1) m' σ' H') ∧ ∀ x H', (Itl K a).yld i H x H' → g x σ H' fun σ2 H2 => tb { De with nx := N, ct := N, bk := De.nx } σ2 H2) := by
  obtain ⟨tr, hs0, hrs, hR⟩ := h
  refine for_list (xs := tr.map (·.1)) Pv h0 (fun i σ H' _ p => (he i σ H' p).l hs0) (fun i x σ H' hx p => ?_) (fun σ H' p => hd σ H' ?_)
  · rw [List.getElem?_map] at hx
    obtain ⟨b, hb, rfl⟩ := Option.map_eq_some_iff.mp hx
    obtain ⟨t, cv, h3, hT, hc⟩ := (hR b (List.mem_of_getElem? hb)).keep (he i σ H' p).keepT
    rw [h3]
    exact hs i t b.2 cv σ H' (by rw [hrs, List.getElem?_map, hb]; rfl) p hT hc
  · rw [hrs]
    rw [List.length_map] at p ⊢
    exact p
end
theorem leaves_rows (rs : List RowD) : leavesOf (prs rs) = (rs.filter fun r => decide (r.nm ∉ rs.map (·.par))).map (·.nm) := by
  have h1 : (prs rs).map (·.1) = rs.map (·.nm) := by rw [List.map_map]; rfl
  have h2 : (prs rs).map (·.2) = rs.map (·.par) := by rw [List.map_map]; rfl
  unfold leavesOf
  rw [h1, h2, List.filter_map]
  rfl
theorem below_len (n : Str) (R : List (Str × Str)) : (belowR n R).length ≤ R.length + 1 := by
  induction R with
  | nil => exact Nat.le_refl _
  | cons q R ih =>
    show (if q.2 ∈ belowR n R then belowR n R ++ [q.1] else belowR n R).length ≤ _
    split
    · rw [List.length_append]
      simp only [List.length_cons, List.length_nil]
      omega
    · simp only [List.length_cons]
      omega
theorem below_cons (n : Str) (q : Str × Str) (R : List (Str × Str)) : belowR n (q :: R) = if q.2 ∈ belowR n R then belowR n R ++ [q.1] else belowR n R := rfl
theorem RR_take {rs : List RowD} {i : Nat} {r : RowD} (h : rs[i]? = some r) : RR (rs.take (i + 1)) = (r.nm, r.par) :: RR (rs.take i) := by
  unfold RR prs
  rw [List.take_succ, h]
  simp
/-- [.. for n in a dict of names and ints ..] -/
theorem keysS {d : Addr} {ls : List Str} {S : Str → Int} {td te : TE} {g : TG} {tt : TT} {vs : List Nat} {σ : L2.St} {H : Hp} {Q : VK} (h : Rd H d (.dK (fm ls S))) (hz : ls.length ≤ 8) (f : Str → Option V)
    (hd : ∀ (od : Obj) (Hl : Hp), Hl d = some (.frz od (.dK (fm ls S))) → (∀ b, b ≠ d → Hl b = H b) → ∀ Q1 : VK, Q1 (.ref d) Hl → td σ Hl Q1)
    (turn : ∀ (x : Str) (od : Obj) (Hl H' : Hp), x ∈ ls → Hl d = some (.frz od (.dK (fm ls S))) → (∀ b, b ≠ d → Hl b = H b) → Ex Hl H' → ∀ Q : Option V → Hp → Prop, (∀ H4, Ex H' H4 → Q (f x) H4) →
      g (.str x) (wipe σ vs) H' fun σ2 H2 => wipe σ2 vs = wipe σ vs ∧ tt σ2 H2 fun b H3 => if b = true then te σ2 H3 fun y H4 => Q (some y) H4 else Q none H3)
    (done : ∀ p H2, H p = none → Ex H H2 → H2 p = some (.lst (ls.filterMap f)) → Q (.ref p) H2) : tLockO (tLc (iKeys td) g tt te vs) σ H Q := by
  refine keysC h (by rw [fm_len]; omega) (fun kv => match kv.1 with | .inr x => f x | .inl _ => none) hd (fun i kk v od Hl H' hk h1 h2 e Q q => ?_) (fun p H2 hp e2 h2 => done p H2 hp e2 ?_)
  · unfold fm at hk
    rw [List.getElem?_map] at hk
    obtain ⟨x, hx, hxe⟩ := Option.map_eq_some_iff.mp hk
    cases hxe
    exact turn x od Hl H' (List.mem_of_getElem? hx) h1 h2 e Q q
  · rw [h2]
    unfold fm
    rw [List.filterMap_map]
    rfl
theorem Rd.ne_lst {H : Hp} {d l : Addr} {kvs : List (Key × V)} {xs : List V} (h : Rd H d (.dK kvs)) (hl : H l = some (.lst xs)) : l ≠ d := fun e => by
  rcases h with z | ⟨_, z⟩
  · rw [e, z] at hl
    cases hl
  · rw [e, z] at hl
    cases hl
section
variable {K : PySem.W.Frag} {σ : L2.St} {H1 : Hp} {D a : Addr} {g : TG} {tb : TS} {tt : TT} {te : TE} {vs : List Nat} {Qd : Hp → Prop} {rs : List RowD} {De : Ends}
theorem lc_rowsR {γ : Type} (Rep : Hp → V → γ → Prop) (mono : ∀ H H' v c, KeepT H H' → Rep H v c → Rep H' v c) (h : RowsAt K H1 a rs) (hz : rs.length ≤ 8) (f : RowD → Option γ) (hD : H1 D = none)
    (turn : ∀ (i : Nat) (t : Addr) (r : RowD) (cv : V) (H' : Hp), rs[i]? = some r → Ex H1 H' → SqT K H' t [.str r.nm, .str r.par, .int r.wt, cv] → CapR K H' cv r.cap → ∀ Q : Option V → Hp → Prop, (∀ y H4, Ex H' H4 → OutR Rep H4 (f r) y → Q y H4) →
      g (.ref t) (wipe σ vs) H' fun σ2 H2 => wipe σ2 vs = wipe σ vs ∧ tt σ2 H2 fun b H3 => if b = true then te σ2 H3 fun y H4 => Q (some y) H4 else Q none H3)
    (done : ∀ H' ys, Ex H1 H' → H' D = some (.lst ys) → Reps Rep H' ys (rs.filterMap f) → Qd H') :
    ∃ W : Nat → Nat → Hp → Prop, (∃ m, W 0 m (upd H1 D (.lst []))) ∧ ∀ i m H, W i m H →
      ((Itl K a).stop i H ∧ Qd H) ∨ ((Itl K a).go i H ∧ ∃ Nx : Hp → Prop, (∀ H', Nx H' → ∃ m', m' < m ∧ W (i + 1) m' H') ∧ ∀ x H', (Itl K a).yld i H x H' → g x (wipe σ vs) H' fun σ2 H2 => wipe σ2 vs = wipe σ vs ∧ tt σ2 H2 fun b H3 =>
        if b = true then te σ2 H3 fun y H4 => ∃ acc, H4 D = some (.lst acc) ∧ acc.length < sizeLine ∧ Nx (upd H4 D (.lst (acc ++ [y]))) else Nx H3) := by
  obtain ⟨tr, hs, hrs, hR⟩ := h
  have hz2 : tr.length ≤ 10000 := by
    rw [hrs, List.length_map] at hz
    omega
  refine lc_rep tr (·.1) Rep mono (fun p => f p.2) hD hs hz2 (fun i b H' hb e Q q => ?_) (fun H2 ys e2 h2 r2 => done H2 ys e2 h2 ?_)
  · obtain ⟨t, cv, h3, hT, hc⟩ := (hR b (List.mem_of_getElem? hb)).keep e.keepT
    rw [h3]
    exact turn i t b.2 cv H' (by rw [hrs, List.getElem?_map, hb]; rfl) e hT hc Q q
  · rw [hrs, List.filterMap_map]
    exact r2
end
theorem Reps.keep {γ : Type} {Rep : Hp → V → γ → Prop} (mono : ∀ H H' v c, KeepT H H' → Rep H v c → Rep H' v c) {H H' : Hp} (e : KeepT H H') {ys : List V} {cs : List γ} (h : Reps Rep H ys cs) : Reps Rep H' ys cs := by
  obtain ⟨tr, h1, h2, h3⟩ := h
  exact ⟨tr, h1, h2, fun p hp => mono _ _ _ _ e (h3 p hp)⟩
theorem Reps.cons {γ : Type} {Rep : Hp → V → γ → Prop} {H : Hp} {y : V} {c : γ} {ys : List V} {cs : List γ} (h1 : Rep H y c) (h : Reps Rep H ys cs) : Reps Rep H (y :: ys) (c :: cs) := by
  obtain ⟨tr, rfl, rfl, h3⟩ := h
  refine ⟨(y, c) :: tr, rfl, rfl, fun p hp => ?_⟩
  rcases List.mem_cons.mp hp with e | e
  · rw [e]
    exact h1
  · exact h3 p e
theorem Reps.snoc {γ : Type} {Rep : Hp → V → γ → Prop} {H : Hp} {y : V} {c : γ} {ys : List V} {cs : List γ} (h : Reps Rep H ys cs) (h1 : Rep H y c) : Reps Rep H (ys ++ [y]) (cs ++ [c]) := by
  obtain ⟨tr, rfl, rfl, h3⟩ := h
  refine ⟨tr ++ [(y, c)], by simp, by simp, fun p hp => ?_⟩
  rcases List.mem_append.mp hp with e | e
  · exact h3 p e
  · cases List.mem_singleton.mp e
    exact h1
theorem Reps.len {γ : Type} {Rep : Hp → V → γ → Prop} {H : Hp} {ys : List V} {cs : List γ} (h : Reps Rep H ys cs) : ys.length = cs.length := by
  obtain ⟨tr, rfl, rfl, h3⟩ := h
  simp
theorem Reps.get {γ : Type} {Rep : Hp → V → γ → Prop} {H : Hp} {ys : List V} {cs : List γ} {i : Nat} {c : γ} (h : Reps Rep H ys cs) (hc : cs[i]? = some c) : ∃ y, ys[i]? = some y ∧ Rep H y c := by
  obtain ⟨tr, rfl, rfl, h3⟩ := h
  rw [List.getElem?_map] at hc
  obtain ⟨b, hb, rfl⟩ := Option.map_eq_some_iff.mp hc
  exact ⟨b.1, by rw [List.getElem?_map, hb]; rfl, h3 b (List.mem_of_getElem? hb)⟩
theorem rowsAt_of_reps {K : PySem.W.Frag} {H : Hp} {a : Addr} {ys : List V} {cs : List RowD} (h : H a = some (.lst ys)) (r : Reps (RowR K) H ys cs) : RowsAt K H a cs := .of (K74.SqL.of' h) r
theorem RowsAt.get {K : PySem.W.Frag} {H : Hp} {a : Addr} {rs : List RowD} (h : RowsAt K H a rs) : ∃ ys, SqL K H a ys ∧ Reps (RowR K) H ys rs := by
  obtain ⟨tr, h1, h2, h3⟩ := h
  exact ⟨_, h1, tr, rfl, h2, h3⟩
/-- the row of a name -/
theorem WfD.row {rs : List RowD} (w : WfD rs) {r : RowD} (h : r ∈ rs) : rs.filter (fun q => decide (q.nm = r.nm)) = [r] := by
  have nd := w.nd
  clear w
  induction rs with
  | nil => cases h
  | cons q rs ih =>
    have nd2 := List.nodup_cons.mp nd
    rcases List.mem_cons.mp h with e | h
    · subst e
      rw [List.filter_cons, if_pos (by simp)]
      have : rs.filter (fun q => decide (q.nm = r.nm)) = [] := by
        rw [List.filter_eq_nil_iff]
        intro x hx
        simp only [decide_eq_true_eq]
        intro e
        exact nd2.1 (List.mem_map.mpr ⟨x, hx, e⟩)
      rw [this]
    · rw [List.filter_cons, if_neg, ih h nd2.2]
      simp only [decide_eq_true_eq]
      intro e
      exact nd2.1 (List.mem_map.mpr ⟨r, h, e.symm⟩)
theorem filterMap_ifS {α : Type} (q : α → Bool) (xs : List α) : xs.filterMap (fun x => if q x = true then some x else none) = xs.filter q := by
  rw [filterMap_if q (fun x => x), List.map_id']
theorem WfD.par_in {rs : List RowD} (w : WfD rs) {r : RowD} (h : r ∈ rs) : r.par = "" ∨ r.par ∈ nms rs := (parent_in w.wf (mem_RR.mpr ⟨r, h, rfl, rfl⟩)).imp id RR_names.mp
theorem WfD.path {rs : List RowD} (w : WfD rs) {r : RowD} (h : r ∈ rs) : pathR (RR rs) r.nm = pathR (RR rs) r.par ++ [r.nm] := path_step w.wf (mem_RR.mpr ⟨r, h, rfl, rfl⟩)
section
variable {K : PySem.W.Frag} {σ : L2.St} {H1 : Hp} {D a : Addr} {g : TG} {tb : TS} {De : Ends}
theorem for_it (J : It) (n : Nat) (Pv : Nat → L2.St → Hp → Prop) (h0 : Pv 0 σ H1) (hgo : ∀ i σ H, i < n → Pv i σ H → J.go i H) (hstop : ∀ σ H, Pv n σ H → J.stop n H)
    (hs : ∀ i x σ H H', i < n → Pv i σ H → J.yld i H x H' → g x σ H' fun σ2 H2 => tb { De with nx := Pv (i + 1), ct := Pv (i + 1), bk := De.nx } σ2 H2) (hd : ∀ σ H', Pv n σ H' → De.nx σ H') :
    ∃ W : Nat → Nat → L2.St → Hp → Prop, (∃ m, W 0 m σ H1) ∧ ∀ i m σ H, W i m σ H →
      (J.stop i H ∧ De.nx σ H) ∨ (J.go i H ∧ ∃ N : L2.St → Hp → Prop, (∀ σ' H', N σ' H' → ∃ m', m' < m ∧ W (i + 1) m' σ' H') ∧ ∀ x H', J.yld i H x H' → g x σ H' fun σ2 H2 => tb { De with nx := N, ct := N, bk := De.nx } σ2 H2) := by
  refine ⟨fun i m σ H => m = n - i ∧ i ≤ n ∧ Pv i σ H, ⟨n, by simp, Nat.zero_le _, h0⟩, ?_⟩
  rintro i m σ H ⟨rfl, hi, p⟩
  by_cases hlt : i < n
  · exact .inr ⟨hgo i σ H hlt p, Pv (i + 1), fun σ' H' p' => ⟨n - (i + 1), by omega, rfl, hlt, p'⟩, fun x H' y => hs i x σ H H' hlt p y⟩
  · have e : i = n := by omega
    subst e
    exact .inl ⟨hstop σ H p, hd σ H p⟩
/-- for i, x in enumerate(rows) -/
theorem for_enumR {H0 : Hp} {rs : List RowD} (h : RowsAt K H0 a rs) (Pv : Nat → L2.St → Hp → Prop) (h0 : Pv 0 σ H1) (he : ∀ i σ H', Pv i σ H' → Ex H0 H')
    (hs : ∀ (i : Nat) (T t : Addr) (r : RowD) (cv : V) (σ : L2.St) (H' : Hp), rs[i]? = some r → Pv i σ H' → H' T = none → SqT K H' t [.str r.nm, .str r.par, .int r.wt, cv] → CapR K H' cv r.cap →
      g (.ref T) σ (upd H' T (.tup [.int (i : Nat), .ref t])) fun σ2 H2 => tb { De with nx := Pv (i + 1), ct := Pv (i + 1), bk := De.nx } σ2 H2)
    (hd : ∀ σ H', Pv rs.length σ H' → De.nx σ H') :
    ∃ W : Nat → Nat → L2.St → Hp → Prop, (∃ m, W 0 m σ H1) ∧ ∀ i m σ H, W i m σ H →
      ((Ite K a).stop i H ∧ De.nx σ H) ∨ ((Ite K a).go i H ∧ ∃ N : L2.St → Hp → Prop, (∀ σ' H', N σ' H' → ∃ m', m' < m ∧ W (i + 1) m' σ' H') ∧ ∀ x H', (Ite K a).yld i H x H' → g x σ H' fun σ2 H2 => tb { De with nx := N, ct := N, bk := De.nx } σ2 H2) := by
  obtain ⟨tr, hs0, hrs, hR⟩ := h
  have hlen : rs.length = tr.length := by rw [hrs, List.length_map]
  refine for_it (Ite K a) rs.length Pv h0 (fun i σ H hi p => ⟨_, (tr[i]'(hlen ▸ hi)).1, (he i σ H p).l hs0, by rw [List.getElem?_map, List.getElem?_eq_getElem (hlen ▸ hi)]; rfl⟩)
    (fun σ H p => ⟨_, (he _ σ H p).l hs0, by rw [List.length_map]; omega⟩) (fun i x σ H H' hi p y => ?_) hd
  obtain ⟨T, x2, rfl, hT, rfl, hx⟩ := y
  obtain ⟨b, hb⟩ : ∃ b, tr[i]? = some b := ⟨_, List.getElem?_eq_getElem (hlen ▸ hi)⟩
  have hx2 := hx _ ((he i σ H p).l hs0)
  rw [List.getElem?_map, hb] at hx2
  obtain rfl := Option.some.inj hx2
  obtain ⟨t, cv, h3, hT3, hc⟩ := (hR _ (List.mem_of_getElem? hb)).keep (he i σ H p).keepT
  dsimp only
  rw [h3]
  exact hs i T t _ cv σ H (by rw [hrs, List.getElem?_map, hb]; rfl) p hT hT3 hc
end
theorem wf_suffix {α : Type} [DecidableEq α] {r0 : α} {l R : List (α × α)} (h : WfR r0 (l ++ R)) : WfR r0 R := by
  induction l with
  | nil => exact h
  | cons q l ih =>
    obtain ⟨n, p⟩ := q
    exact ih h.2.2.2
theorem RR_split (rs : List RowD) (i : Nat) : RR rs = RR (rs.drop i) ++ RR (rs.take i) := by
  unfold RR prs
  rw [← List.reverse_append, ← List.map_append, List.take_append_drop]
theorem WfD.at {rs : List RowD} (w : WfD rs) {i : Nat} {r : RowD} (h : rs[i]? = some r) : r.nm ≠ "" ∧ r.nm ∉ nms (rs.take i) ∧ (r.par = "" ∨ r.par ∈ nms (rs.take i)) ∧ WfR ("" : Str) (RR (rs.take i)) := by
  have h1 := wf_suffix (RR_split rs (i + 1) ▸ w.wf)
  rw [RR_take h] at h1
  obtain ⟨a, b, c, d⟩ := h1
  exact ⟨a, fun z => b (RR_names.mpr z), c.imp id RR_names.mp, d⟩
theorem kids_take {rs : List RowD} {i : Nat} {r : RowD} (h : rs[i]? = some r) (n : Str) : kids (prs (rs.take (i + 1))) n = if r.par = n then kids (prs (rs.take i)) n ++ [r.nm] else kids (prs (rs.take i)) n := by
  unfold kids prs
  rw [List.take_succ, h, List.map_append, List.filter_append, List.map_append]
  by_cases c : r.par = n
  · rw [if_pos c]
    simp [c]
  · rw [if_neg c]
    simp [c]
theorem WfD.kids_new {rs : List RowD} (w : WfD rs) {i : Nat} {r : RowD} (h : rs[i]? = some r) : kids (prs (rs.take i)) r.nm = [] := by
  obtain ⟨a, b, c, d⟩ := w.at h
  rw [kids_nil]
  intro z
  obtain ⟨q, hq, e⟩ := List.mem_map.mp z
  rcases parent_in d (x := q.1) (p := q.2) (List.mem_reverse.mpr hq) with z | z
  · exact a (e.symm.trans z)
  · exact b (RR_names.mp (e ▸ z))
theorem kids_len (rs : List RowD) (n : Str) : (kids (prs rs) n).length ≤ rs.length := by
  unfold kids prs
  rw [List.length_map]
  exact Nat.le_trans (List.length_filter_le _ _) (by rw [List.length_map]; exact Nat.le_refl _)
theorem nms_take {rs : List RowD} {i : Nat} {r : RowD} (h : rs[i]? = some r) : nms (rs.take (i + 1)) = nms (rs.take i) ++ [r.nm] := by
  unfold nms
  rw [List.take_succ, h, List.map_append]
  rfl
/-! ### all but one instance -/
section
variable {K : PySem.W.Frag} {H H' : Hp} {a x C dx : Addr} {fs : List (Str × V)} {xs : List V}
theorem but_l (k : Keep [x] H H') (hx : H x = some (.ins C dx fs)) (h : SqL K H a xs) : SqL K H' a xs := by
  rcases h with h | h
  · rcases h with h | ⟨o, h⟩
    · exact .inl (.inl (k _ _ h fun z => by rw [List.mem_singleton.mp z, hx] at h; cases h))
    · exact .inl (.inr ⟨o, k _ _ h fun z => by rw [List.mem_singleton.mp z, hx] at h; cases h⟩)
  · exact .inr h
theorem but_t (k : Keep [x] H H') (hx : H x = some (.ins C dx fs)) (h : SqT K H a xs) : SqT K H' a xs := by
  rcases h with h | h
  · rcases h with h | ⟨o, h⟩
    · exact .inl (.inl (k _ _ h fun z => by rw [List.mem_singleton.mp z, hx] at h; cases h))
    · exact .inl (.inr ⟨o, k _ _ h fun z => by rw [List.mem_singleton.mp z, hx] at h; cases h⟩)
  · exact .inr h
theorem but_row (k : Keep [x] H H') (hx : H x = some (.ins C dx fs)) {v : V} {r : RowD} (h : RowR K H v r) : RowR K H' v r := by
  obtain ⟨t, cv, h1, h2, h3⟩ := h
  refine ⟨t, cv, h1, but_t k hx h2, ?_⟩
  cases hc : r.cap with
  | none =>
    rw [hc] at h3
    exact h3
  | some q =>
    rw [hc] at h3
    obtain ⟨c, h4, h5⟩ := h3
    exact ⟨c, h4, but_t k hx h5⟩
theorem but_rows (k : Keep [x] H H') (hx : H x = some (.ins C dx fs)) {rs : List RowD} (h : RowsAt K H a rs) : RowsAt K H' a rs := by
  obtain ⟨tr, h1, h2, h3⟩ := h
  exact ⟨tr, but_l k hx h1, h2, fun p hp => but_row k hx (h3 p hp)⟩
end
/-! ### the children's dict -/
def BelI (H6 H' : Hp) (bl ka0 : Addr) (rs : List RowD) : Prop := Keep [bl, ka0] H6 H' ∧ ∃ blk : List (Key × V), H' bl = some (.dK blk) ∧ blk.length ≤ rs.length + 1 ∧ (∀ n : Str, ¬ (n = "" ∨ n ∈ nms rs) → valV blk (.inr n) = none) ∧
  (∀ n : Str, n = "" ∨ n ∈ nms rs → ∃ ka, valV blk (.inr n) = some (.ref ka) ∧ H' ka = some (.lst ((kids (prs rs) n).map V.str)) ∧ (ka = ka0 ∨ H6 ka = none)) ∧ ∀ (n m : Str) (ka : Addr), valV blk (.inr n) = some (.ref ka) → valV blk (.inr m) = some (.ref ka) → n = m
theorem bel_step {H6 H' : Hp} {bl ka0 q : Addr} {rs : List RowD} (w : WfD rs) {i : Nat} {r : RowD} (hi : rs[i]? = some r) (h : BelI H6 H' bl ka0 (rs.take i)) (hq : H' q = none) :
    ∃ (blk : List (Key × V)) (kp : Addr), H' bl = some (.dK blk) ∧ blk.length ≤ 9 ∧ q ≠ bl ∧ kp ≠ bl ∧ valV (putK blk (.inr r.nm) (.ref q)) (.inr r.par) = some (.ref kp) ∧
      (upd (upd H' q (.lst [])) bl (.dK (putK blk (.inr r.nm) (.ref q)))) kp = some (.lst ((kids (prs (rs.take i)) r.par).map V.str)) ∧
      BelI H6 (upd (upd (upd H' q (.lst [])) bl (.dK (putK blk (.inr r.nm) (.ref q)))) kp (.lst ((kids (prs (rs.take i)) r.par).map V.str ++ [.str r.nm]))) bl ka0 (rs.take (i + 1)) := by
  obtain ⟨k0, blk, h1, h2, h3, h4, h5⟩ := h
  obtain ⟨wa, wb, wc, _⟩ := w.at hi
  obtain ⟨kp, p1, p2, p3⟩ := h4 r.par wc
  have hpn : r.par ≠ r.nm := fun e => by
    rcases wc with z | z
    · exact wa (e.symm.trans z)
    · exact wb (e ▸ z)
  have hqb : q ≠ bl := fun e => by
    rw [e, h1] at hq
    cases hq
  have hkb : kp ≠ bl := fun e => by
    rw [e, h1] at p2
    cases p2
  have hkq : kp ≠ q := fun e => by
    rw [e, hq] at p2
    cases p2
  have hq6 : q = ka0 ∨ H6 q = none := by
    by_cases e : q = ka0
    · exact .inl e
    · right
      cases z : H6 q with
      | none => rfl
      | some o =>
        have := k0 q o z (by simp [hqb, e])
        rw [hq] at this
        cases this
  have vp : valV (putK blk (.inr r.nm) (.ref q)) (.inr r.par) = some (.ref kp) := by
    rw [valV_put, if_neg (fun e => hpn (Sum.inr.inj e))]
    exact p1
  refine ⟨blk, kp, h1, ?_, hqb, hkb, vp, ?_, ?_, ?_⟩
  · have := w.few
    rw [List.length_take] at h2
    omega
  · rw [upd_ne hkb, upd_ne hkq]
    exact p2
  · intro b o hb hn
    simp only [List.mem_cons, List.mem_nil_iff, or_false, not_or] at hn
    have n3 : b ≠ kp := fun e => by
      rcases p3 with z | z
      · exact hn.2 (e.trans z)
      · rw [e, z] at hb
        cases hb
    have n4 : b ≠ q := fun e => by
      rcases hq6 with z | z
      · exact hn.2 (e.trans z)
      · rw [e, z] at hb
        cases hb
    rw [upd_ne n3, upd_ne hn.1, upd_ne n4]
    exact k0 b o hb (by simp [hn.1, hn.2])
  · refine ⟨putK blk (.inr r.nm) (.ref q), ?_, ?_, ?_, ?_, ?_⟩
    · rw [upd_ne (Ne.symm hkb), upd_same]
    · have := length_putK blk (.inr r.nm) (.ref q)
      have e : (rs.take (i + 1)).length = (rs.take i).length + 1 := by
        have := (List.getElem?_eq_some_iff.mp hi).1
        rw [List.length_take, List.length_take]
        omega
      omega
    · intro n hn
      rw [nms_take hi] at hn
      simp only [List.mem_append, List.mem_singleton, not_or] at hn
      rw [valV_put, if_neg (fun e => hn.2.2 (Sum.inr.inj e))]
      exact h3 n fun z => z.elim hn.1 hn.2.1
    · intro n hn
      by_cases e : n = r.nm
      · subst e
        refine ⟨q, by rw [valV_put, if_pos rfl], ?_, hq6⟩
        rw [upd_ne (Ne.symm hkq), upd_ne hqb, upd_same, kids_take hi, if_neg hpn, w.kids_new hi]
        rfl
      · have hn2 : n = "" ∨ n ∈ nms (rs.take i) := by
          rw [nms_take hi] at hn
          simpa [e] using hn
        obtain ⟨ka, a1, a2, a3⟩ := h4 n hn2
        refine ⟨ka, by rw [valV_put, if_neg (fun z => e (Sum.inr.inj z))]; exact a1, ?_, a3⟩
        have naq : ka ≠ q := fun e => by
          rw [e, hq] at a2
          cases a2
        have nab : ka ≠ bl := fun e => by
          rw [e, h1] at a2
          cases a2
        by_cases e2 : r.par = n
        · subst e2
          have : ka = kp := by
            rw [p1] at a1
            exact (V.ref.inj (Option.some.inj a1)).symm
          subst this
          rw [upd_same, kids_take hi, if_pos rfl, List.map_append]
          rfl
        · have : ka ≠ kp := fun z => e2 (h5 _ _ kp p1 (z ▸ a1))
          rw [upd_ne this, upd_ne nab, upd_ne naq, kids_take hi, if_neg e2]
          exact a2
    · intro n m ka hn hm
      rw [valV_put] at hn hm
      have nq : ∀ z : Str, valV blk (.inr z) ≠ some (.ref q) := fun z hz => by
        by_cases c : z = "" ∨ z ∈ nms (rs.take i)
        · obtain ⟨ka', b1, b2, _⟩ := h4 z c
          rw [hz] at b1
          cases b1
          rw [hq] at b2
          cases b2
        · rw [h3 z c] at hz
          cases hz
      by_cases e1 : n = r.nm
      · rw [if_pos (by rw [e1])] at hn
        cases hn
        by_cases e2 : m = r.nm
        · rw [e1, e2]
        · rw [if_neg (fun z => e2 (Sum.inr.inj z))] at hm
          exact absurd hm (nq m)
      · rw [if_neg (fun z => e1 (Sum.inr.inj z))] at hn
        by_cases e2 : m = r.nm
        · rw [if_pos (by rw [e2])] at hm
          cases hm
          exact absurd hn (nq n)
        · rw [if_neg (fun z => e2 (Sum.inr.inj z))] at hm
          exact h5 n m ka hn hm
/-! ### a dict that is locked meanwhile -/
structure Soft (d : Addr) (kvs : List (Key × V)) (H Hl : Hp) : Prop where
  was : Rd H d (.dK kvs)
  now : ∃ od, Hl d = some (.frz od (.dK kvs))
  oth : ∀ b, b ≠ d → Hl b = H b
section
variable {K : PySem.W.Frag} {H Hl : Hp} {d a : Addr} {kvs k2 : List (Key × V)} {xs : List V} (s : Soft d kvs H Hl)
include s
theorem Soft.ne {o : HO} (h : H a = some o) (h1 : o ≠ .dK kvs) (h2 : ∀ od, o ≠ .frz od (.dK kvs)) : a ≠ d := fun e => by
  rcases s.was with z | ⟨od, z⟩
  · rw [e, z] at h
    exact h1 (Option.some.inj h).symm
  · rw [e, z] at h
    exact h2 od (Option.some.inj h).symm
theorem Soft.o {o : HO} (h : H a = some o) (h1 : o ≠ .dK kvs) (h2 : ∀ od, o ≠ .frz od (.dK kvs)) : Hl a = some o := by
  rw [s.oth a (s.ne h h1 h2)]
  exact h
theorem Soft.l (h : SqL K H a xs) : SqL K Hl a xs := by
  rcases h with h | h
  · rcases h with h | ⟨o, h⟩
    · exact .inl (.inl (s.o h (fun z => by cases z) fun _ z => by cases z))
    · exact .inl (.inr ⟨o, s.o h (fun z => by cases z) fun _ z => by cases z⟩)
  · exact .inr h
theorem Soft.t (h : SqT K H a xs) : SqT K Hl a xs := by
  rcases h with h | h
  · rcases h with h | ⟨o, h⟩
    · exact .inl (.inl (s.o h (fun z => by cases z) fun _ z => by cases z))
    · exact .inl (.inr ⟨o, s.o h (fun z => by cases z) fun _ z => by cases z⟩)
  · exact .inr h
theorem Soft.ins {C dx : Addr} {fs : List (Str × V)} (h : H a = some (.ins C dx fs)) : Hl a = some (.ins C dx fs) := s.o h (fun z => by cases z) fun _ z => by cases z
theorem Soft.lst (h : H a = some (.lst xs)) : Hl a = some (.lst xs) := s.o h (fun z => by cases z) fun _ z => by cases z
theorem Soft.rd (h : Rd H a (.dK k2)) : Rd Hl a (.dK k2) := by
  by_cases e : a = d
  · subst e
    obtain ⟨od, h1⟩ := s.now
    have : kvs = k2 := by
      rcases s.was with z | ⟨_, z⟩ <;> rcases h with q | ⟨_, q⟩ <;> rw [z] at q <;> cases q <;> rfl
    subst this
    exact .inr ⟨od, h1⟩
  · rcases h with q | ⟨o, q⟩
    · exact .inl (by rw [s.oth a e]; exact q)
    · exact .inr ⟨o, by rw [s.oth a e]; exact q⟩
theorem Soft.row {v : V} {r : RowD} (h : RowR K H v r) : RowR K Hl v r := by
  obtain ⟨t, cv, h1, h2, h3⟩ := h
  refine ⟨t, cv, h1, s.t h2, ?_⟩
  cases hc : r.cap with
  | none =>
    rw [hc] at h3
    exact h3
  | some q =>
    rw [hc] at h3
    obtain ⟨c, h4, h5⟩ := h3
    exact ⟨c, h4, s.t h5⟩
theorem Soft.rows {rs : List RowD} (h : RowsAt K H a rs) : RowsAt K Hl a rs := by
  obtain ⟨tr, h1, h2, h3⟩ := h
  exact ⟨tr, s.l h1, h2, fun p hp => s.row (h3 p hp)⟩
end
theorem Soft.of {H : Hp} {d : Addr} {kvs : List (Key × V)} (od : Obj) (h : H d = some (.dK kvs)) : Soft d kvs H (upd H d (.frz od (.dK kvs))) := ⟨.inl h, ⟨od, upd_same⟩, fun b hb => upd_ne hb⟩
theorem upd_back {H : Hp} {d : Addr} {o u : HO} (h : H d = some u) : upd (upd H d o) d u = H := by
  funext b
  by_cases e : b = d
  · subst e
    rw [upd_same, h]
  · rw [upd_ne e, upd_ne e]
/-- for n in a dict of names and ints (the for stands under ps_lock) -/
theorem lock_names {d : Addr} {ns : List Str} {S : Str → Int} {td : TE} {g : TG} {tb : TS} {De : Ends} {σ : L2.St} {H : Hp} (h : H d = some (.dK (fm ns S)))
    (Pv : Nat → L2.St → Hp → Prop) (h0 : ∀ od, Pv 0 σ (upd H d (.frz od (.dK (fm ns S))))) (hl : ∀ i σ H', Pv i σ H' → ∃ od, H' d = some (.frz od (.dK (fm ns S))))
    (htd : ∀ (Hl : Hp) (Q : VK), Q (.ref d) Hl → td σ Hl Q)
    (hs : ∀ (i : Nat) (n : Str) (od : Obj) (σ : L2.St) (H' : Hp), ns[i]? = some n → H' d = some (.frz od (.dK (fm ns S))) → Pv i σ H' → g (.str n) σ H' fun σ2 H2 => tb ⟨(fun σ3 H3 => H3 d = some (.frz od (.dK (fm ns S))) ∧ Pv (i + 1) σ3 H3), (fun v H3 => H3 d = some (.frz od (.dK (fm ns S))) ∧ De.rt v (upd H3 d (.dK (fm ns S)))),
      (fun σ3 H3 => H3 d = some (.frz od (.dK (fm ns S))) ∧ De.nx σ3 (upd H3 d (.dK (fm ns S)))), (fun σ3 H3 => H3 d = some (.frz od (.dK (fm ns S))) ∧ Pv (i + 1) σ3 H3)⟩ σ2 H2)
    (hd : ∀ σ H', Pv ns.length σ H' → De.nx σ (upd H' d (.dK (fm ns S)))) : tLock (tFor (iKeys td) g tb) De σ H := by
  refine ⟨d, _, h, True.intro, fun od => ?_⟩
  refine htd _ _ ⟨d, od, rfl, .inl ⟨_, upd_same, ?_⟩⟩
  refine for_keys (fun i σ H' => H' d = some (.frz od (.dK (fm ns S))) ∧ Pv i σ H') ⟨upd_same, h0 od⟩ (fun i σ H' _ p => p.1) (fun i k v σ H' hk p => ?_) (fun σ H' p => ⟨p.1, hd σ H' (by have := p.2; rwa [fm_len] at this)⟩)
  unfold fm at hk
  rw [List.getElem?_map] at hk
  obtain ⟨n, hn, hne⟩ := Option.map_eq_some_iff.mp hk
  cases hne
  exact hs i n od σ H' hn p.1 p.2
end K74
set_option Elab.async false
set_option linter.all false
set_option maxRecDepth 100000
set_option maxHeartbeats 4000000
namespace K74
open PySem PySem.Spec PyProof.Rows L2
section
variable {P : Program} {w : World} {K : PySem.W.Frag} {mg : Str → Option Value} {base : Heap}
abbrev N_l_cell_at : List Str := ["_law_script", "_law_k"]
abbrev P_l_cell_at : List Str := ["_law_script", "_law_k"]
theorem sc_l_cell_at : FnScope N_l_cell_at P_l_cell_at (defScope s_l_cell_at) := C8.fnScope_by (by decide +kernel)
theorem b_l_cell_at {K : PySem.W.Frag} {fd : FuncData} (F : FunD K d_l_cell_at.name d_l_cell_at.qual d_l_cell_at.params d_l_cell_at.body d_l_cell_at.scope (d_l_cell_at.dvs K) (d_l_cell_at.kws K) (He.fAd K d_l_cell_at.at_) fd) : L2.Binds K fd P_l_cell_at [] :=
  FunD.bindsN F fun _ _ _ _ _ _ us hl => match us, hl with | [_, _], _ => rfl
abbrev N_l_mixed : List Str := ["_law_cell", "_law_k", "_law_low"]
abbrev P_l_mixed : List Str := ["_law_cell", "_law_k"]
theorem sc_l_mixed : FnScope N_l_mixed P_l_mixed (defScope s_l_mixed) := C8.fnScope_by (by decide +kernel)
theorem b_l_mixed {K : PySem.W.Frag} {fd : FuncData} (F : FunD K d_l_mixed.name d_l_mixed.qual d_l_mixed.params d_l_mixed.body d_l_mixed.scope (d_l_mixed.dvs K) (d_l_mixed.kws K) (He.fAd K d_l_mixed.at_) fd) : L2.Binds K fd P_l_mixed [] :=
  FunD.bindsN F fun _ _ _ _ _ _ us hl => match us, hl with | [_, _], _ => rfl
abbrev N_l_source : List Str := ["_law_script", "_law_k", "_law_cell"]
abbrev P_l_source : List Str := ["_law_script", "_law_k"]
theorem sc_l_source : FnScope N_l_source P_l_source (defScope s_l_source) := C8.fnScope_by (by decide +kernel)
theorem b_l_source {K : PySem.W.Frag} {fd : FuncData} (F : FunD K d_l_source.name d_l_source.qual d_l_source.params d_l_source.body d_l_source.scope (d_l_source.dvs K) (d_l_source.kws K) (He.fAd K d_l_source.at_) fd) : L2.Binds K fd P_l_source [] :=
  FunD.bindsN F fun _ _ _ _ _ _ us hl => match us, hl with | [_, _], _ => rfl
abbrev N_l_next : List Str := ["_law_source_here", "_law_many_here", "_law_found"]
abbrev P_l_next : List Str := ["_law_source_here", "_law_many_here"]
theorem sc_l_next : FnScope N_l_next P_l_next (defScope s_l_next) := C8.fnScope_by (by decide +kernel)
theorem b_l_next {K : PySem.W.Frag} {fd : FuncData} (F : FunD K d_l_next.name d_l_next.qual d_l_next.params d_l_next.body d_l_next.scope (d_l_next.dvs K) (d_l_next.kws K) (He.fAd K d_l_next.at_) fd) : L2.Binds K fd P_l_next [] :=
  FunD.bindsN F fun _ _ _ _ _ _ us hl => match us, hl with | [_, _], _ => rfl
abbrev N_l_divisor : List Str := ["_law_one", "_law_other"]
abbrev P_l_divisor : List Str := ["_law_one", "_law_other"]
theorem sc_l_divisor : FnScope N_l_divisor P_l_divisor (defScope s_l_divisor) := C8.fnScope_by (by decide +kernel)
theorem b_l_divisor {K : PySem.W.Frag} {fd : FuncData} (F : FunD K d_l_divisor.name d_l_divisor.qual d_l_divisor.params d_l_divisor.body d_l_divisor.scope (d_l_divisor.dvs K) (d_l_divisor.kws K) (He.fAd K d_l_divisor.at_) fd) : L2.Binds K fd P_l_divisor [] :=
  FunD.bindsN F fun _ _ _ _ _ _ us hl => match us, hl with | [_, _], _ => rfl
abbrev N_l_ratio : List Str := ["_law_top", "_law_bottom", "_law_measure"]
abbrev P_l_ratio : List Str := ["_law_top", "_law_bottom"]
theorem sc_l_ratio : FnScope N_l_ratio P_l_ratio (defScope s_l_ratio) := C8.fnScope_by (by decide +kernel)
theorem b_l_ratio {K : PySem.W.Frag} {fd : FuncData} (F : FunD K d_l_ratio.name d_l_ratio.qual d_l_ratio.params d_l_ratio.body d_l_ratio.scope (d_l_ratio.dvs K) (d_l_ratio.kws K) (He.fAd K d_l_ratio.at_) fd) : L2.Binds K fd P_l_ratio [] :=
  FunD.bindsN F fun _ _ _ _ _ _ us hl => match us, hl with | [_, _], _ => rfl
abbrev N_l_part : List Str := ["_law_source_here", "_law_way_here"]
abbrev P_l_part : List Str := ["_law_source_here"]
theorem sc_l_part : FnScope N_l_part P_l_part (defScope s_l_part) := C8.fnScope_by (by decide +kernel)
theorem b_l_part {K : PySem.W.Frag} {fd : FuncData} (F : FunD K d_l_part.name d_l_part.qual d_l_part.params d_l_part.body d_l_part.scope (d_l_part.dvs K) (d_l_part.kws K) (He.fAd K d_l_part.at_) fd) : L2.Binds K fd P_l_part [] :=
  FunD.bindsN F fun _ _ _ _ _ _ us hl => match us, hl with | [_], _ => rfl
abbrev N_l_many : List Str := ["_law_source_here", "_law_way_here", "_law_few", "_law_more"]
abbrev P_l_many : List Str := ["_law_source_here"]
theorem sc_l_many : FnScope N_l_many P_l_many (defScope s_l_many) := C8.fnScope_by (by decide +kernel)
theorem b_l_many {K : PySem.W.Frag} {fd : FuncData} (F : FunD K d_l_many.name d_l_many.qual d_l_many.params d_l_many.body d_l_many.scope (d_l_many.dvs K) (d_l_many.kws K) (He.fAd K d_l_many.at_) fd) : L2.Binds K fd P_l_many [] :=
  FunD.bindsN F fun _ _ _ _ _ _ us hl => match us, hl with | [_], _ => rfl
/-! ### the draws -/
def SrcAt (H : Hp) (a : Addr) : Prop := ∃ x y z : Int, H a = some (.lst [.int x, .int y, .int z])
theorem src_at (H : Hp) (a : Addr) (x y z : Int) : SrcAt (upd H a (.lst [.int x, .int y, .int z])) a := ⟨x, y, z, upd_same⟩
theorem SrcAt.ex {H H' : Hp} {a : Addr} (e : Ex H H') (h : SrcAt H a) : SrcAt H' a := by
  obtain ⟨x, y, z, h⟩ := h
  exact ⟨x, y, z, e _ _ h⟩
def spCell (K : PySem.W.Frag) : Sp := fun vs H Q _ => ∃ (a : Addr) (ns : List Int) (k : Nat), vs = [.ref a, .int k] ∧ SqL K H a (ns.map V.int) ∧ Q (.int (ns.getD k 0)) H
theorem ok_l_cell_at (T : Tx K mg) : Has P w K mg base CX0 1 d_l_cell_at P_l_cell_at (spCell K) := by
  refine has0 T _ at_d_l_cell_at sc_l_cell_at (fun fd F => b_l_cell_at F) (fun vs H Q E h => ?_) (fun cdv A outer s H vs Q E hr h => ?_)
  · obtain ⟨a, ns, k, rfl, _⟩ := h
    rfl
  · obtain ⟨a, ns, k, rfl, hs, q⟩ := h
    have nd := sc_l_cell_at.nd
    refine ⟨_, (pss_cons (ps_if (pt_cmpR op_lt (pv 1) (pe_callB (callLen K rfl) (by rfl) T.z_len (by decide +kernel) (pa_cons (pv 0) pa_nil)) (nomark _)) (pss_one (ps_ret (pe_ix (ixL K rfl) (pv 0) (pv 1) (fun _ _ => rfl)))) pss_nil)
        (pss_one (ps_ret pe_int))), ?_⟩
    refine ⟨_, rfl, _, rfl, a, _, rfl, .inl hs, _, _, rfl, rfl, _, rfl, ?_⟩
    rw [List.length_map]
    by_cases c : (k : Int) < (ns.length : Nat)
    · refine ifT (decide_eq_true c) ⟨_, rfl, _, rfl, a, _, _, .int (ns.getD k 0), rfl, rfl, hs, atI_nat (j := k) ?_, q⟩
      have hk : k < ns.length := by omega
      rw [List.getElem?_map, List.getD_eq_getElem?_getD, List.getElem?_eq_getElem hk]
      rfl
    · refine ifF (decide_eq_false c) ?_
      have : ns.getD k 0 = 0 := by
        rw [List.getD_eq_getElem?_getD, List.getElem?_eq_none (by omega)]
        rfl
      rw [this] at q
      exact q
def spMixed : Sp := fun vs H Q _ => ∃ c k : Int, vs = [.int c, .int k] ∧ ∀ r : Int, 0 ≤ r → r < 2147483563 → Q (.int r) H
theorem ok_l_mixed (T : Tx K mg) : Has P w K mg base CX0 1 d_l_mixed P_l_mixed spMixed := by
  refine has0 T _ at_d_l_mixed sc_l_mixed (fun fd F => b_l_mixed F) (fun vs H Q E h => ?_) (fun cdv A outer s H vs Q E hr h => ?_)
  · obtain ⟨c, k, rfl, _⟩ := h
    rfl
  · obtain ⟨c, k, rfl, q⟩ := h
    have nd := sc_l_mixed.nd
    refine ⟨_, (pss_cons (ps_set (i := 2) nd rfl (Or.inl rfl) (pe_op op_add (pe_op op_mod (pe_callTy call_int1 (by rfl) T.z_int (by decide +kernel) (pa_cons (pv 0) pa_nil)) pe_int) (pe_op op_mul (pe_op op_fdivW (pv 0) pe_int) pe_int)))
        (pss_cons (ps_set (i := 2) nd rfl (Or.inl rfl) (pe_op op_mod (pe_callTy call_int1 (by rfl) T.z_int (by decide +kernel) (pa_cons (pe_op op_mul (pe_op op_add (pe_op op_add (pv 2) (pe_op op_mul pe_int (pv 1))) pe_int) pe_int) pa_nil)) pe_int))
        (pss_cons (ps_set (i := 2) nd rfl (Or.inl rfl) (pe_op op_mod (pe_callTy call_int1 (by rfl) T.z_int (by decide +kernel) (pa_cons (pe_op op_mul (pv 2) (pe_op op_add (pe_op op_add (pe_op op_fdivW (pv 2) pe_int) pe_int) (pv 1))) pa_nil)) pe_int))
        (pss_one (ps_ret (pe_op op_mod (pe_callTy call_int1 (by rfl) T.z_int (by decide +kernel) (pa_cons (pe_op op_mul (pv 2) (pe_op op_add (pe_op op_fdivW (pv 2) pe_int) pe_int)) pa_nil)) pe_int)))))), ?_⟩
    have d1 : (2147483629 : Int).natAbs < 2 ^ 31 := by decide
    have d2 : (907 : Int).natAbs < 2 ^ 31 := by decide
    have d3 : (1201 : Int).natAbs < 2 ^ 31 := by decide
    have p1 : (0 : Int) < 2147483629 := by decide
    have p2 : (0 : Int) < 2147483587 := by decide
    have p3 : (0 : Int) < 2147483563 := by decide
    have b1 : ∀ u : Int, -(2 ^ 64) < u % 2147483629 ∧ u % 2147483629 < 2 ^ 64 := fun u => by
      have h1 := Int.emod_nonneg u (show (2147483629 : Int) ≠ 0 by decide)
      have h2 := Int.emod_lt_of_pos u p1
      omega
    have b2 : ∀ u : Int, -(2 ^ 64) < u % 2147483587 ∧ u % 2147483587 < 2 ^ 64 := fun u => by
      have h1 := Int.emod_nonneg u (show (2147483587 : Int) ≠ 0 by decide)
      have h2 := Int.emod_lt_of_pos u p2
      omega
    refine ⟨_, rfl, .inl ⟨_, rfl, _, _, rfl, rfl, p1, _, rfl, _, _, rfl, rfl, wide_div (by decide) d1 (by decide) (by decide), _, _, rfl, rfl, .inr ⟨by decide, by decide⟩, _, _, rfl, rfl, ?_⟩⟩
    refine ⟨_, rfl, _, rfl, _, _, rfl, rfl, .inl ⟨by decide, by decide⟩, _, _, rfl, rfl, _, _, rfl, rfl, _, _, rfl, rfl, .inr ⟨by decide, by decide⟩, .inl ⟨_, rfl, _, _, rfl, rfl, p1, ?_⟩⟩
    refine ⟨_, rfl, _, rfl, _, _, rfl, rfl, wide_div (by decide) d2 (by decide) (by decide), _, _, rfl, rfl, _, rfl, _, _, rfl, rfl, _, _, rfl, rfl, .inl (b1 _), .inl ⟨_, rfl, _, _, rfl, rfl, p2, ?_⟩⟩
    refine ⟨_, rfl, _, rfl, _, _, rfl, rfl, wide_div (by decide) d3 (by decide) (by decide), _, _, rfl, rfl, _, _, rfl, rfl, .inl (b2 _), .inl ⟨_, rfl, _, _, rfl, rfl, p3, ?_⟩⟩
    exact q _ (Int.emod_nonneg _ (by decide)) (Int.emod_lt_of_pos _ p3)
def spSource (K : PySem.W.Frag) : Sp := fun vs H Q _ => ∃ (a : Addr) (ns : List Int) (k : Nat), vs = [.ref a, .int k] ∧ SqL K H a (ns.map V.int) ∧ ∀ p x y z, H p = none → Q (.ref p) (upd H p (.lst [.int x, .int y, .int z]))
theorem ok_l_source (T : Tx K mg) : Has P w K mg base CX0 2 d_l_source P_l_source (spSource K) := by
  have H_l_mixed : Has P w K mg base CX0 1 d_l_mixed P_l_mixed spMixed := ok_l_mixed T
  have H_l_cell_at : Has P w K mg base CX0 1 d_l_cell_at P_l_cell_at (spCell K) := ok_l_cell_at T
  refine has0 T _ at_d_l_source sc_l_source (fun fd F => b_l_source F) (fun vs H Q E h => ?_) (fun cdv A outer s H vs Q E hr h => ?_)
  · obtain ⟨a, ns, k, rfl, _⟩ := h
    rfl
  · obtain ⟨a, ns, k, rfl, hs, q⟩ := h
    have nd := sc_l_source.nd
    refine ⟨_, (pss_cons (ps_if (pt_cmpR op_lt (pv 1) (pe_callB (callLen K rfl) (by rfl) T.z_len (by decide +kernel) (pa_cons (pv 0) pa_nil)) (nomark _)) (pss_one (ps_ret (pe_lst (pa_cons (pe_ix (ixL K rfl) (pv 0) (pv 1) (fun _ _ => rfl)) (pa_cons (pe_ix (ixL K rfl) (pv 0) (pv 1) (fun _ _ => rfl)) (pa_cons pe_int pa_nil)))))) pss_nil)
        (pss_cons (ps_set (i := 2) nd rfl (Or.inl rfl) (pe_cl H_l_mixed hr (by first | decide | omega) T.g_l_mixed pass0 (pa_cons (pe_cl H_l_cell_at hr (by first | decide | omega) T.g_l_cell_at pass0 (pa_cons (pv 0) (pa_cons pe_int pa_nil))) (pa_cons (pe_op op_add pe_int (pv 1)) pa_nil))))
        (pss_one (ps_ret (pe_lst (pa_cons (pv 2) (pa_cons (pv 2) (pa_cons pe_int pa_nil)))))))), ?_⟩
    refine ⟨_, rfl, _, rfl, a, _, rfl, .inl hs, _, _, rfl, rfl, _, rfl, ?_⟩
    rw [List.length_map]
    by_cases c : (k : Int) < (ns.length : Nat)
    · have hk : k < ns.length := by omega
      have hat : atI (ns.map V.int) (k : Int) = some (.int (ns.getD k 0)) := atI_nat (by
        rw [List.getElem?_map, List.getD_eq_getElem?_getD, List.getElem?_eq_getElem hk]
        rfl)
      exact ifT (decide_eq_true c) ⟨_, rfl, _, rfl, a, _, _, .int (ns.getD k 0), rfl, rfl, hs, hat, _, rfl, _, rfl, a, _, _, .int (ns.getD k 0), rfl, rfl, hs, hat, (by show 3 ≤ sizeLine; decide), fun p hp => q p _ _ _ hp⟩
    · refine ifF (decide_eq_false c) ?_
      refine ⟨_, rfl, a, ns, 0, rfl, hs, _, rfl, _, _, rfl, rfl, _, _, rfl, fun r _ _ => ?_⟩
      exact ⟨_, rfl, _, rfl, (by show 3 ≤ sizeLine; decide), fun p hp => q p _ _ _ hp⟩
def spNext : Sp := fun vs H Q _ => ∃ (a : Addr) (m : Int), vs = [.ref a, .int m] ∧ SrcAt H a ∧ 0 < m ∧ m < 2 ^ 62 ∧ ∀ r H', 0 ≤ r → r < m → Keep [a] H H' → SrcAt H' a → Q (.int r) H'
theorem ok_l_next (T : Tx K mg) : Has P w K mg base CX0 2 d_l_next P_l_next spNext := by
  have H_l_mixed : Has P w K mg base CX0 1 d_l_mixed P_l_mixed spMixed := ok_l_mixed T
  refine has0 T _ at_d_l_next sc_l_next (fun fd F => b_l_next F) (fun vs H Q E h => ?_) (fun cdv A outer s H vs Q E hr h => ?_)
  · obtain ⟨a, m, rfl, _⟩ := h
    rfl
  · obtain ⟨a, m, rfl, ⟨x, y, z, hs⟩, h0, h1, q⟩ := h
    have nd := sc_l_next.nd
    refine ⟨_, (pss_cons (ps_if (pt_cmpR op_ge (pe_ix (ixL K rfl) (pv 0) pe_int (fun _ _ => rfl)) (pe_op op_pow pe_int pe_int) (nomark _)) (pss_cons (ps_set (i := 2) nd rfl (Or.inl rfl) (pe_op op_mod (pe_callTy call_int1 (by rfl) T.z_int (by decide +kernel) (pa_cons (pe_ix (ixL K rfl) (pv 0) pe_int (fun _ _ => rfl)) pa_nil)) (pv 1)))
            (pss_cons (ps_asg (pe_op op_fdivW (pe_ix (ixL K rfl) (pv 0) pe_int (fun _ _ => rfl)) (pv 1)) (pg_sub (pv 0) pe_int set_list))
            (pss_one (ps_ret (pv 2))))) pss_nil)
        (pss_cons (ps_asg (pe_op op_add (pe_ix (ixL K rfl) (pv 0) pe_int (fun _ _ => rfl)) pe_int) (pg_sub (pv 0) pe_int set_list))
        (pss_one (ps_ret (pe_op op_mod (pe_callTy call_int1 (by rfl) T.z_int (by decide +kernel) (pa_cons (pe_cl H_l_mixed hr (by first | decide | omega) T.g_l_mixed pass0 (pa_cons (pe_ix (ixL K rfl) (pv 0) pe_int (fun _ _ => rfl)) (pa_cons (pe_ix (ixL K rfl) (pv 0) pe_int (fun _ _ => rfl)) pa_nil))) pa_nil)) (pv 1)))))), ?_⟩
    have hL : SqL K H a [.int x, .int y, .int z] := K74.SqL.of' hs
    have a0 : atI [V.int x, .int y, .int z] 0 = some (.int x) := atI_nat (j := 0) rfl
    have a1 : atI [V.int x, .int y, .int z] 1 = some (.int y) := atI_nat (j := 1) rfl
    have a2 : atI [V.int x, .int y, .int z] 2 = some (.int z) := atI_nat (j := 2) rfl
    have mb : m.natAbs < 2 ^ 62 := by omega
    refine ⟨_, rfl, a, _, _, _, rfl, rfl, hL, a0, _, _, rfl, rfl, ⟨by decide, by decide, by decide⟩, _, _, rfl, rfl, _, rfl, ?_⟩
    refine ifB (fun _ => ?_) (fun _ => ?_)
    · refine ⟨_, rfl, a, _, _, _, rfl, rfl, hL, a0, .inl ⟨_, rfl, _, rfl, _, _, rfl, rfl, h0, ?_⟩⟩
      refine ⟨_, rfl, a, _, _, _, rfl, rfl, hL, a0, _, rfl, _, _, rfl, rfl, wide_div h0 mb (by decide) (by decide), _, rfl, a, _, _, 0, rfl, rfl, hs, rfl, ?_⟩
      exact ⟨_, rfl, q _ _ (Int.emod_nonneg _ (by omega)) (Int.emod_lt_of_pos _ h0) (Keep.upd _) ⟨_, _, _, upd_same⟩⟩
    · refine ⟨_, rfl, a, _, _, _, rfl, rfl, hL, a2, _, _, rfl, rfl, _, rfl, a, _, _, 2, rfl, rfl, hs, rfl, ?_⟩
      have hL2 : SqL K (upd H a (.lst [.int x, .int y, .int (z + 1)])) a [.int x, .int y, .int (z + 1)] := K74.SqL.of' upd_same
      refine ⟨_, rfl, a, _, _, .int y, rfl, rfl, hL2, atI_nat (j := 1) rfl, _, rfl, a, _, _, .int (z + 1), rfl, rfl, hL2, atI_nat (j := 2) rfl, _, _, rfl, fun r _ _ => .inl ⟨_, rfl, _, rfl, _, _, rfl, rfl, h0, ?_⟩⟩
      exact q _ _ (Int.emod_nonneg _ (by omega)) (Int.emod_lt_of_pos _ h0) (Keep.upd _) ⟨_, _, _, upd_same⟩
theorem ok_l_divisor (T : Tx K mg) : Has P w K mg base CX0 1 d_l_divisor P_l_divisor spDivisor := by
  refine has0 T _ at_d_l_divisor sc_l_divisor (fun fd F => b_l_divisor F) (fun vs H Q E h => ?_) (fun cdv A outer s H vs Q E hr h => ?_)
  · obtain ⟨a, b, rfl, _⟩ := h
    rfl
  · obtain ⟨a, b, rfl, ha, hb, k⟩ := h
    have nd := sc_l_divisor.nd
    refine ⟨_, (pss_cons (ps_while PassesOwn.never (pt_cmpR op_gt (pv 1) pe_int (nomark _))
          (pss_one (ps_par (i := 0) (j := 1) rfl nd rfl rfl (by decide) rfl rfl (pa_cons (pv 1) (pa_cons (pe_op op_mod (pe_callTy call_int1 (by rfl) T.z_int (by decide +kernel) (pa_cons (pv 0) pa_nil)) (pv 1)) pa_nil)) (by rfl))))
        (pss_one (ps_ret (pv 0)))), ?_⟩
    refine ⟨fun m σ H' => ∃ x y : Int, σ = [some (.int x), some (.int y)] ∧ 0 ≤ x ∧ 0 ≤ y ∧ gcdI x y = gcdI a b ∧ H' = H ∧ m = y.toNat, ⟨_, a, b, rfl, ha, hb, rfl, rfl, rfl⟩, ?_⟩
    rintro m σ H' ⟨x, y, rfl, hx, hy, hg, rfl, rfl⟩
    refine ⟨_, rfl, _, _, rfl, rfl, _, rfl, ?_⟩
    by_cases c : y > 0
    · refine ifT (decide_eq_true c) ?_
      refine ⟨fun σ' H2 => ∃ x' y' : Int, σ' = [some (.int x'), some (.int y')] ∧ 0 ≤ x' ∧ 0 ≤ y' ∧ gcdI x' y' = gcdI a b ∧ H2 = H' ∧ y'.toNat < y.toNat, ?_, ?_⟩
      · rintro σ' H2 ⟨x', y', rfl, h1, h2, h3, rfl, h4⟩
        exact ⟨_, h4, x', y', rfl, h1, h2, h3, rfl, rfl⟩
      · have h1 := Int.emod_nonneg x (show y ≠ 0 by omega)
        have h2 := Int.emod_lt_of_pos x c
        exact ⟨_, rfl, _, rfl, .inl ⟨_, rfl, _, rfl, _, _, rfl, rfl, c, _, _, rfl, _, _, rfl, hy, h1, by rw [gcdI_step hx c]; exact hg, rfl, by omega⟩⟩
    · refine ifF (decide_eq_false c) ⟨_, rfl, ?_⟩
      have e : x = gcdI a b := by
        rw [← hg, show y = 0 by omega, gcdI_zero]
        omega
      rw [e]
      exact k
theorem ok_l_ratio (T : Tx K mg) : Has P w K mg base CX0 2 d_l_ratio P_l_ratio spFraction := by
  have H_l_divisor : Has P w K mg base CX0 1 d_l_divisor P_l_divisor spDivisor := ok_l_divisor T
  refine has0 T _ at_d_l_ratio sc_l_ratio (fun fd F => b_l_ratio F) (fun vs H Q E h => ?_) (fun cdv A outer s H vs Q E hr h => ?_)
  · obtain ⟨a, b, rfl, _⟩ := h
    rfl
  · obtain ⟨t, b, rfl, hb, hl, k⟩ := h
    have nd := sc_l_ratio.nd
    refine ⟨_, (pss_cons (ps_set (i := 2) nd rfl (Or.inl rfl) (pe_cl H_l_divisor hr (by first | decide | omega) T.g_l_divisor pass0 (pa_cons (pe_callB call_abs (by rfl) T.z_abs (by decide +kernel) (pa_cons (pv 0) pa_nil)) (pa_cons (pv 1) pa_nil))))
        (pss_one (ps_ret (pe_tup (pa_cons (pe_op op_fdivW (pv 0) (pv 2)) (pa_cons (pe_op op_fdivW (pv 1) (pv 2)) pa_nil)))))), ?_⟩
    have e : gcdI (if t < 0 then -t else t) b = gcdI t b := by
      rw [← gcdI_abs t b]
      congr 1
      split <;> omega
    have hg := gcdI_pos (a := t) hb
    have hd : ∀ i : Int, CDivW i (gcdI t b) := fun i => wide_div hg (bd_gcd hb hl) (by decide) (by decide)
    refine ⟨_, rfl, _, rfl, _, rfl, _, _, rfl, by split <;> omega, Int.le_of_lt hb, ?_⟩
    rw [e]
    exact ⟨_, rfl, _, rfl, _, _, rfl, rfl, hd _, _, rfl, _, rfl, _, _, rfl, rfl, hd _, (by show 2 ≤ sizeLine; decide), k⟩
end
end K74
set_option Elab.async false
set_option linter.all false
set_option maxRecDepth 100000
set_option maxHeartbeats 4000000
namespace K74
open PySem PySem.Spec PyProof.Rows L2
section
variable {P : Program} {w : World} {K : PySem.W.Frag} {mg : Str → Option Value} {base : Heap}
def spPart (K : PySem.W.Frag) : Sp := fun vs H Q _ => ∃ a : Addr, vs = [.ref a] ∧ SrcAt H a ∧ ∀ c H' q, Keep [a] H H' → SrcAt H' a → SqT K H' c [.int q.1, .int q.2] → CapOk (some q) → Q (.ref c) H'
theorem pow_upI {m n : Nat} {x : Nat} (h : x < 2 ^ m) (e : m ≤ n) : x < 2 ^ n := Nat.lt_of_lt_of_le h (Nat.pow_le_pow_right (by decide) e)
theorem keep_new {a p : Addr} {H H' : Hp} {o : HO} (k : Keep [a] H H') (h : H' p = none) : Keep [a] H (upd H' p o) := fun b u hb hn => (Ex.new h) b u (k b u hb hn)
theorem SrcAt.new {H : Hp} {a p : Addr} {o : HO} (s : SrcAt H a) (h : H p = none) : SrcAt (upd H p o) a := s.ex (Ex.new h)
theorem ok_l_part (T : Tx K mg) : Has P w K mg base CX0 3 d_l_part P_l_part (spPart K) := by
  have H_l_next : Has P w K mg base CX0 2 d_l_next P_l_next spNext := ok_l_next T
  have H_l_ratio : Has P w K mg base CX0 2 d_l_ratio P_l_ratio spFraction := ok_l_ratio T
  refine has0 T _ at_d_l_part sc_l_part (fun fd F => b_l_part F) (fun vs H Q E h => ?_) (fun cdv A outer s H vs Q E hr h => ?_)
  · obtain ⟨a, rfl, _⟩ := h
    rfl
  · obtain ⟨a, rfl, hs, k⟩ := h
    have nd := sc_l_part.nd
    refine ⟨_, (pss_cons (ps_set (i := 1) nd rfl (Or.inl rfl) (pe_cl H_l_next hr (by first | decide | omega) T.g_l_next pass0 (pa_cons (pv 0) (pa_cons pe_int pa_nil))))
        (pss_cons (ps_if (pt_cmpR op_eq (pv 1) pe_int (nomark _)) (pss_one (ps_ret (pe_tup (pa_cons pe_int (pa_cons pe_int pa_nil))))) pss_nil)
        (pss_cons (ps_if (pt_cmpR op_eq (pv 1) pe_int (nomark _)) (pss_one (ps_ret (pe_tup (pa_cons (pe_op op_add pe_int (pe_cl H_l_next hr (by first | decide | omega) T.g_l_next pass0 (pa_cons (pv 0) (pa_cons pe_int pa_nil)))) (pa_cons pe_int pa_nil))))) pss_nil)
        (pss_cons (ps_if (pt_cmpR op_eq (pv 1) pe_int (nomark _)) (pss_one (ps_ret (pe_cl H_l_ratio hr (by first | decide | omega) T.g_l_ratio pass0 (pa_cons (pe_op op_add (pe_op op_mulW (pe_cl H_l_next hr (by first | decide | omega) T.g_l_next pass0 (pa_cons (pv 0) (pa_cons (pe_op op_pow pe_int pe_int) pa_nil))) (pe_op op_pow pe_int pe_int)) pe_int) (pa_cons (pe_op op_add pe_int (pe_cl H_l_next hr (by first | decide | omega) T.g_l_next pass0 (pa_cons (pv 0) (pa_cons pe_int pa_nil)))) pa_nil))))) pss_nil)
        (pss_one (ps_ret (pe_cl H_l_ratio hr (by first | decide | omega) T.g_l_ratio pass0 (pa_cons (pe_op op_add pe_int (pe_cl H_l_next hr (by first | decide | omega) T.g_l_next pass0 (pa_cons (pv 0) (pa_cons pe_int pa_nil)))) (pa_cons (pe_op op_add pe_int (pe_cl H_l_next hr (by first | decide | omega) T.g_l_next pass0 (pa_cons (pv 0) (pa_cons pe_int pa_nil)))) pa_nil))))))))), ?_⟩
    refine ⟨_, rfl, a, 5, rfl, hs, by decide, by decide, fun r H1 r0 r1 k1 s1 => ?_⟩
    refine ⟨_, rfl, rfl, _, rfl, ifB (fun _ => ?_) (fun _ => ?_)⟩
    · exact ⟨by show 2 ≤ sizeLine; decide, fun p hp => k p _ (0, 1) (keep_new k1 hp) (s1.new hp) (SqT.of upd_same) ⟨Int.le_refl _, by show (0 : Int) < 1; decide, rfl⟩⟩
    refine ⟨_, rfl, rfl, _, rfl, ifB (fun _ => ?_) (fun _ => ?_)⟩
    · refine ⟨_, rfl, a, 20, rfl, s1, by decide, by decide, fun r2 H2 h20 h21 k2 s2 => ⟨_, _, rfl, rfl, by show 2 ≤ sizeLine; decide, fun p hp => k p _ (1 + r2, 1) (keep_new (k1.trans k2) hp) (s2.new hp) (SqT.of upd_same) ⟨by show 0 ≤ 1 + r2; omega, by show (0 : Int) < 1; decide, ?_⟩⟩⟩
      show gcdI (1 + r2) 1 = 1
      unfold gcdI
      rw [Int.gcd_one_right]
      rfl
    have fin : ∀ {H2 : Hp} {t b : Int}, Keep [a] H H2 → SrcAt H2 a → 0 ≤ t → 0 < b → ∀ p, H2 p = none → Q (.ref p) (upd H2 p (tupF (redF t b))) := fun {H2 t b} k2 s2 ht hb p hp => k p _ (redF t b) (keep_new k2 hp) (s2.new hp) (SqT.of upd_same) ⟨red_nonneg ht hb, red_pos hb, red_gcd hb⟩
    refine ⟨_, rfl, rfl, _, rfl, ifB (fun _ => ?_) (fun _ => ?_)⟩
    · refine ⟨_, rfl, _, _, rfl, rfl, ⟨by decide, by decide, by decide⟩, a, 10 ^ 9, rfl, s1, by decide, by decide, fun r2 H2 h20 h21 k2 s2 => ?_⟩
      refine ⟨_, _, rfl, rfl, ⟨by decide, by decide, by decide⟩, _, _, rfl, rfl, wide_mul (a := 62) (b := 62) (by omega) (by decide) (by decide) (by decide) (by decide), _, _, rfl, rfl, ?_⟩
      refine ⟨_, rfl, a, 60, rfl, s2, by decide, by decide, fun r3 H3 h30 h31 k3 s3 => ⟨_, _, rfl, rfl, ?_⟩⟩
      have e9 : (10 : Int) ^ (9 : Int).toNat = 10 ^ 9 := rfl
      refine ⟨_, _, rfl, by omega, pow_upI (m := 62) (by omega) (by decide), ?_⟩
      exact fin ((k1.trans k2).trans k3) s3 (by show 0 ≤ r2 * (10 : Int) ^ (9 : Int).toNat + 1; rw [e9]; omega) (by omega)
    · refine ⟨_, rfl, a, 60, rfl, s1, by decide, by decide, fun r2 H2 h20 h21 k2 s2 => ⟨_, _, rfl, rfl, ?_⟩⟩
      refine ⟨_, rfl, a, 12, rfl, s2, by decide, by decide, fun r3 H3 h30 h31 k3 s3 => ⟨_, _, rfl, rfl, ?_⟩⟩
      refine ⟨_, _, rfl, by omega, pow_upI (m := 62) (by omega) (by decide), ?_⟩
      exact fin ((k1.trans k2).trans k3) s3 (by omega) (by omega)
def spMany : Sp := fun vs H Q _ => ∃ a : Addr, vs = [.ref a] ∧ SrcAt H a ∧ ∀ n H', Keep [a] H H' → SrcAt H' a → 0 ≤ n → n < 2 * 10 ^ 57 → Q (.int n) H'
theorem ok_l_many (T : Tx K mg) : Has P w K mg base CX0 3 d_l_many P_l_many spMany := by
  have H_l_next : Has P w K mg base CX0 2 d_l_next P_l_next spNext := ok_l_next T
  refine has0 T _ at_d_l_many sc_l_many (fun fd F => b_l_many F) (fun vs H Q E h => ?_) (fun cdv A outer s H vs Q E hr h => ?_)
  · obtain ⟨a, rfl, _⟩ := h
    rfl
  · obtain ⟨a, rfl, hs, k⟩ := h
    have nd := sc_l_many.nd
    refine ⟨_, (pss_cons (ps_set (i := 1) nd rfl (Or.inl rfl) (pe_cl H_l_next hr (by first | decide | omega) T.g_l_next pass0 (pa_cons (pv 0) (pa_cons pe_int pa_nil))))
        (pss_cons (ps_if (pt_cmpR op_eq (pv 1) pe_int (nomark _)) (pss_one (ps_ret (pe_op op_add (pe_op op_add (pe_op op_pow pe_int pe_int) (pe_op op_mulW (pe_cl H_l_next hr (by first | decide | omega) T.g_l_next pass0 (pa_cons (pv 0) (pa_cons (pe_op op_pow pe_int pe_int) pa_nil))) (pe_op op_pow pe_int pe_int))) (pe_cl H_l_next hr (by first | decide | omega) T.g_l_next pass0 (pa_cons (pv 0) (pa_cons (pe_op op_pow pe_int pe_int) pa_nil)))))) pss_nil)
        (pss_cons (ps_par (i := 2) (j := 3) rfl nd rfl rfl (by decide) rfl rfl (pa_cons (pe_cl H_l_next hr (by first | decide | omega) T.g_l_next pass0 (pa_cons (pv 0) (pa_cons pe_int pa_nil))) (pa_cons (pe_cl H_l_next hr (by first | decide | omega) T.g_l_next pass0 (pa_cons (pv 0) (pa_cons pe_int pa_nil))) pa_nil)) (by rfl))
        (pss_one (ps_ret (pe_ix (ixL K rfl) (pe_lst (pa_cons pe_int (pa_cons (pv 2) (pa_cons (pe_op op_mod (pe_callTy call_int1 (by rfl) T.z_int (by decide +kernel) (pa_cons (pv 3) pa_nil)) pe_int) (pa_cons (pv 3) (pa_cons (pe_op op_add (pe_op op_pow pe_int pe_int) (pv 2)) pa_nil)))))) (pv 1) (fun _ _ => rfl))))))), ?_⟩
    refine ⟨_, rfl, a, 6, rfl, hs, by decide, by decide, fun r H1 r0 r1 k1 s1 => ?_⟩
    refine ⟨_, rfl, rfl, _, rfl, ?_⟩
    have e40 : (10 : Int) ^ (40 : Int).toNat = 10 ^ 40 := rfl
    have e57 : (10 : Int) ^ (57 : Int).toNat = 10 ^ 57 := rfl
    have e12 : (10 : Int) ^ (12 : Int).toNat = 10 ^ 12 := rfl
    by_cases c : r = 5
    · refine ifT (by rw [c]; rfl) ?_
      refine ⟨_, _, rfl, rfl, ⟨by decide, by decide, by decide⟩, _, rfl, _, _, rfl, rfl, ⟨by decide, by decide, by decide⟩, a, 10 ^ 9, rfl, s1, by decide, by decide, fun r2 H2 h20 h21 k2 s2 => ?_⟩
      refine ⟨_, _, rfl, rfl, ⟨by decide, by decide, by decide⟩, _, _, rfl, rfl, wide_mul (a := 62) (b := 200) (by omega) (by decide) (by decide) (by decide) (by decide), _, _, rfl, rfl, ?_⟩
      refine ⟨_, rfl, _, _, rfl, rfl, ⟨by decide, by decide, by decide⟩, a, 10 ^ 9, rfl, s2, by decide, by decide, fun r3 H3 h30 h31 k3 s3 => ⟨_, _, rfl, rfl, ?_⟩⟩
      refine k _ H3 ((k1.trans k2).trans k3) s3 ?_ ?_
      · show 0 ≤ (10 : Int) ^ (57 : Int).toNat + r2 * (10 : Int) ^ (40 : Int).toNat + r3
        rw [e40, e57]
        omega
      · show (10 : Int) ^ (57 : Int).toNat + r2 * (10 : Int) ^ (40 : Int).toNat + r3 < _
        rw [e40, e57]
        omega
    · refine ifF (by simp [c]) ?_
      refine ⟨_, rfl, a, 5, rfl, s1, by decide, by decide, fun few H2 h20 h21 k2 s2 => ⟨_, rfl, a, 300, rfl, s2, by decide, by decide, fun more H3 h30 h31 k3 s3 => ⟨_, _, rfl, ?_⟩⟩⟩
      have p12 : (0 : Int) < 12 := by decide
      have hm0 := Int.emod_nonneg more (show (12 : Int) ≠ 0 by decide)
      have hm1 := Int.emod_lt_of_pos more p12
      refine ⟨_, rfl, _, rfl, .inl ⟨_, rfl, _, _, rfl, rfl, p12, _, rfl, _, _, rfl, rfl, ⟨by decide, by decide, by decide⟩, _, rfl, _, _, rfl, rfl, by show 5 ≤ sizeLine; decide, fun l hl => ?_⟩⟩
      have kk := (k1.trans k2).trans k3
      have go : ∀ (v : Int), 0 ≤ v → v < 2 * 10 ^ 57 → Q (.int v) (upd H3 l (.lst [.int 0, .int few, .int (more % 12), .int more, .int ((10 : Int) ^ (12 : Int).toNat + few)])) := fun v h1 h2 => k v _ (keep_new kk hl) (s3.new hl) h1 h2
      have hL : SqL K (upd H3 l (.lst [.int 0, .int few, .int (more % 12), .int more, .int ((10 : Int) ^ (12 : Int).toNat + few)])) l [.int 0, .int few, .int (more % 12), .int more, .int ((10 : Int) ^ (12 : Int).toNat + few)] := K74.SqL.of' upd_same
      have hr5 : r = 0 ∨ r = 1 ∨ r = 2 ∨ r = 3 ∨ r = 4 := by omega
      rcases hr5 with rfl | rfl | rfl | rfl | rfl
      · exact ⟨_, rfl, l, _, _, .int 0, rfl, rfl, hL, atI_nat (j := 0) rfl, go 0 (by omega) (by omega)⟩
      · exact ⟨_, rfl, l, _, _, .int few, rfl, rfl, hL, atI_nat (j := 1) rfl, go few (by omega) (by omega)⟩
      · exact ⟨_, rfl, l, _, _, .int (more % 12), rfl, rfl, hL, atI_nat (j := 2) rfl, go _ (by omega) (by omega)⟩
      · exact ⟨_, rfl, l, _, _, .int more, rfl, rfl, hL, atI_nat (j := 3) rfl, go more (by omega) (by omega)⟩
      · exact ⟨_, rfl, l, _, _, .int ((10 : Int) ^ (12 : Int).toNat + few), rfl, rfl, hL, atI_nat (j := 4) rfl, go _ (by rw [e12]; omega) (by rw [e12]; omega)⟩
end
end K74
set_option Elab.async false
set_option linter.all false
set_option maxRecDepth 100000
set_option maxHeartbeats 4000000
namespace K74
open PySem PySem.Spec PyProof.Rows L2
section
variable {P : Program} {w : World} {K : PySem.W.Frag} {mg : Str → Option Value} {base : Heap}
/-! ### promises -/
def spLeaves (K : PySem.W.Frag) : Sp := fun vs H Q _ => ∃ (a : Addr) (rs : List RowD), vs = [.ref a] ∧ RowsAt K H a rs ∧ rs.length ≤ 8 ∧ ∀ p H', H p = none → Ex H H' → H' p = some (.lst ((leavesOf (prs rs)).map V.str)) → Q (.ref p) H'
def spPath (K : PySem.W.Frag) : Sp := fun vs H Q _ => ∃ (a : Addr) (n : Str) (rs : List RowD), vs = [.ref a, .str n] ∧ RowsAt K H a rs ∧ WfD rs ∧ (n = "" ∨ n ∈ nms rs) ∧
  ∀ p H' ys cs, H p = none → Ex H H' → H' p = some (.lst ys) → Reps (RowR K) H' ys cs → cs.map (·.nm) = pathR (RR rs) n → (∀ c, c ∈ cs → c ∈ rs) → Q (.ref p) H'
def spLBelow (K : PySem.W.Frag) : Sp := fun vs H Q _ => ∃ (a : Addr) (n : Str) (rs : List RowD), vs = [.ref a, .str n] ∧ RowsAt K H a rs ∧ rs.length ≤ 8 ∧ ∀ p H', H p = none → Ex H H' → H' p = some (.lst ((belowR n (RR rs)).map V.str)) → Q (.ref p) H'
def spCharged (K : PySem.W.Frag) : Sp := fun vs H Q _ => ∃ (a d : Addr) (n : Str) (rs : List RowD) (ls : List Str) (S : Str → Int), vs = [.ref a, .ref d, .str n] ∧ RowsAt K H a rs ∧ rs.length ≤ 8 ∧ ls.length ≤ 8 ∧ Rd H d (.dK (fm ls S)) ∧ ∀ H', Ex H H' → Q (.int (chg rs ls S n)) H'
def spWay (K : PySem.W.Frag) : Sp := fun vs H Q _ => ∃ (a : Addr) (n : Str) (rs : List RowD), vs = [.ref a, .str n] ∧ RowsAt K H a rs ∧ WfD rs ∧ (n = "" ∨ n ∈ nms rs) ∧ ∀ p H', H p = none → Ex H H' → H' p = some (.lst ((("" : Str) :: pathR (RR rs) n).map V.str)) → Q (.ref p) H'
abbrev N_l_leaves : List Str := ["_law_rows_here", "_law_above", "_law_row"]
abbrev P_l_leaves : List Str := ["_law_rows_here"]
theorem sc_l_leaves : FnScope N_l_leaves P_l_leaves (defScope s_l_leaves) := C8.fnScope_by (by decide +kernel)
theorem b_l_leaves {K : PySem.W.Frag} {fd : FuncData} (F : FunD K d_l_leaves.name d_l_leaves.qual d_l_leaves.params d_l_leaves.body d_l_leaves.scope (d_l_leaves.dvs K) (d_l_leaves.kws K) (He.fAd K d_l_leaves.at_) fd) : L2.Binds K fd P_l_leaves [] :=
  FunD.bindsN F fun _ _ _ _ _ _ us hl => match us, hl with | [_], _ => rfl
abbrev N_l_path : List Str := ["_law_rows_here", "_law_name", "_law_found", "_law_row", "_law_one"]
abbrev P_l_path : List Str := ["_law_rows_here", "_law_name"]
theorem sc_l_path : FnScope N_l_path P_l_path (defScope s_l_path) := C8.fnScope_by (by decide +kernel)
theorem b_l_path {K : PySem.W.Frag} {fd : FuncData} (F : FunD K d_l_path.name d_l_path.qual d_l_path.params d_l_path.body d_l_path.scope (d_l_path.dvs K) (d_l_path.kws K) (He.fAd K d_l_path.at_) fd) : L2.Binds K fd P_l_path [] :=
  FunD.bindsN F fun _ _ _ _ _ _ us hl => match us, hl with | [_, _], _ => rfl
abbrev N_l_below : List Str := ["_law_rows_here", "_law_name", "_law_found", "_law_row"]
abbrev P_l_below : List Str := ["_law_rows_here", "_law_name"]
theorem sc_l_below : FnScope N_l_below P_l_below (defScope s_l_below) := C8.fnScope_by (by decide +kernel)
theorem b_l_below {K : PySem.W.Frag} {fd : FuncData} (F : FunD K d_l_below.name d_l_below.qual d_l_below.params d_l_below.body d_l_below.scope (d_l_below.dvs K) (d_l_below.kws K) (He.fAd K d_l_below.at_) fd) : L2.Binds K fd P_l_below [] :=
  FunD.bindsN F fun _ _ _ _ _ _ us hl => match us, hl with | [_, _], _ => rfl
abbrev N_l_charged : List Str := ["_law_rows_here", "_law_sizes", "_law_name", "_law_inner", "_law_leaf"]
abbrev P_l_charged : List Str := ["_law_rows_here", "_law_sizes", "_law_name"]
theorem sc_l_charged : FnScope N_l_charged P_l_charged (defScope s_l_charged) := C8.fnScope_by (by decide +kernel)
theorem b_l_charged {K : PySem.W.Frag} {fd : FuncData} (F : FunD K d_l_charged.name d_l_charged.qual d_l_charged.params d_l_charged.body d_l_charged.scope (d_l_charged.dvs K) (d_l_charged.kws K) (He.fAd K d_l_charged.at_) fd) : L2.Binds K fd P_l_charged [] :=
  FunD.bindsN F fun _ _ _ _ _ _ us hl => match us, hl with | [_, _, _], _ => rfl
abbrev N_l_way : List Str := ["_law_rows_here", "_law_leaf", "_law_row"]
abbrev P_l_way : List Str := ["_law_rows_here", "_law_leaf"]
theorem sc_l_way : FnScope N_l_way P_l_way (defScope s_l_way) := C8.fnScope_by (by decide +kernel)
theorem b_l_way {K : PySem.W.Frag} {fd : FuncData} (F : FunD K d_l_way.name d_l_way.qual d_l_way.params d_l_way.body d_l_way.scope (d_l_way.dvs K) (d_l_way.kws K) (He.fAd K d_l_way.at_) fd) : L2.Binds K fd P_l_way [] :=
  FunD.bindsN F fun _ _ _ _ _ _ us hl => match us, hl with | [_, _], _ => rfl
theorem ok_l_leaves (T : Tx K mg) : Has P w K mg base CX0 1 d_l_leaves P_l_leaves (spLeaves K) := by
  refine has0 T _ at_d_l_leaves sc_l_leaves (fun fd F => b_l_leaves F) (fun vs H Q E h => ?_) (fun cdv A outer s H vs Q E hr h => ?_)
  · obtain ⟨a, rs, rfl, _⟩ := h
    rfl
  · obtain ⟨a, rs, rfl, hR, hz, k⟩ := h
    have nd := sc_l_leaves.nd
    refine ⟨_, (pss_cons (ps_set (i := 1) nd rfl (Or.inr rfl) (pe_lc (own := [("_law_row", 2)]) (g := gName 2) (tt := tYes) rfl nd (pi_list (pv 0)) (blkOk_by (N := N_l_leaves) (sc := defScope s_l_leaves) (by decide +kernel)) (fun _ _ _ _ _ => pg_name (i := 2) nd rfl (Or.inl rfl)) (fun _ _ _ _ _ => pts_nil) (fun _ _ _ _ _ => (pe_ix (ixT K rfl) (pv 2) pe_int (fun _ _ => rfl)))))
        (pss_one (ps_ret (pe_lc (own := [("_law_row", 2)]) (g := gName 2) rfl nd (pi_list (pv 0)) (blkOk_by (N := N_l_leaves) (sc := defScope s_l_leaves) (by decide +kernel)) (fun _ _ _ _ _ => pg_name (i := 2) nd rfl (Or.inl rfl)) (fun _ _ _ _ _ => (pts_one (pt_cmpR (opNin K rfl) (pe_ix (ixT K rfl) (pv 2) pe_int (fun _ _ => rfl)) (pv 1) (by rfl)))) (fun _ _ _ _ _ => (pe_ix (ixT K rfl) (pv 2) pe_int (fun _ _ => rfl))))))), ?_⟩
    refine ⟨_, rfl, a, rfl, hR.sq, fun D hD => ?_⟩
    refine lc_rows hR hz (fun r => some (V.str r.par)) hD (fun i t r cv H' hb e hT hc Q q => ?_) (fun H2 e2 h2 => ?_)
    · exact ⟨rfl, _, rfl, t, _, _, _, rfl, rfl, hT, rfl, q _ (Ex.refl _)⟩
    · have hR2 := hR.ex e2
      rw [filterMap_some] at h2
      refine ⟨_, rfl, a, rfl, hR2.sq, fun D2 hD2 => ?_⟩
      refine lc_rows hR2 hz (fun r => if decide (r.nm ∉ rs.map (·.par)) = true then some (V.str r.nm) else none) hD2 (fun i t r cv H' hb e hT hc Q q => ?_) (fun H3 e3 h3 => ?_)
      · have hl : SqL K H' D ((rs.map (·.par)).map V.str) := K74.SqL.of' (by
          rw [List.map_map]
          exact e _ _ h2)
        refine ⟨rfl, _, rfl, t, _, _, _, rfl, rfl, hT, rfl, _, rfl, _, _, rfl, .inl hl, rfl, flat_strs _, ?_⟩
        rw [inV_str]
        refine ⟨_, rfl, ?_⟩
        by_cases c : r.nm ∈ rs.map (·.par)
        · have qq := q H' (Ex.refl _)
          rw [if_neg (by rw [decide_eq_false (fun z => z c)]; decide)] at qq
          exact ifF (by rw [decide_eq_true c]; rfl) qq
        · have qq := fun H4 e4 => q H4 e4
          rw [if_pos (decide_eq_true c)] at qq
          exact ifT (by rw [decide_eq_false c]; rfl) ⟨_, rfl, t, _, _, _, rfl, rfl, hT, rfl, qq _ (Ex.refl _)⟩
      · refine k D2 H3 (e2.free hD2) (e2.trans e3) ?_
        rw [h3, filterMap_if, leaves_rows, List.map_map]
        rfl
theorem ok_l_below (T : Tx K mg) : Has P w K mg base CX0 1 d_l_below P_l_below (spLBelow K) := by
  refine has0 T _ at_d_l_below sc_l_below (fun fd F => b_l_below F) (fun vs H Q E h => ?_) (fun cdv A outer s H vs Q E hr h => ?_)
  · obtain ⟨a, n, rs, rfl, _⟩ := h
    rfl
  · obtain ⟨a, n, rs, rfl, hR, hz, k⟩ := h
    have nd := sc_l_below.nd
    refine ⟨_, (pss_cons (ps_set (i := 2) nd rfl (Or.inl rfl) (pe_lst (pa_cons (pv 1) pa_nil)))
        (pss_cons (ps_for PassesOwn.never rfl (pi_list (pv 0)) (pg_name (i := 3) nd rfl (Or.inl rfl))
          (pss_one (ps_if (pt_cmpR (opIn K rfl) (pe_ix (ixT K rfl) (pv 3) pe_int (fun _ _ => rfl)) (pv 2) (by rfl)) (pss_one (ps_expr (pe_bm PySem.F.plainAttrs_list PySem.F.slot_list_append PySem.F.type_list_append mt_append (pv 2) (pa_cons (pe_ix (ixT K rfl) (pv 3) pe_int (fun _ _ => rfl)) pa_nil)))) pss_nil)))
        (pss_one (ps_ret (pv 2))))), ?_⟩
    refine ⟨_, rfl, by show 1 ≤ sizeLine; decide, fun l hl => ?_⟩
    have e0 : Ex H (upd H l (.lst [.str n])) := Ex.new hl
    refine ⟨_, rfl, a, rfl, (hR.ex e0).sq, ?_⟩
    refine for_rows hR (fun i σ H' => (∃ z, σ = [some (.ref a), some (.str n), some (.ref l), z]) ∧ Ex H H' ∧ H' l = some (.lst ((belowR n (RR (rs.take i))).map V.str)))
      ⟨⟨_, rfl⟩, e0, upd_same⟩ (fun i σ H' p => p.2.1) (fun i t r cv σ H' hx p hT hc => ?_) (fun σ H' p => ?_)
    · obtain ⟨⟨z, rfl⟩, e1, h1⟩ := p
      refine ⟨_, rfl, t, _, _, _, rfl, rfl, hT, rfl, _, rfl, _, _, rfl, .inl (K74.SqL.of' h1), rfl, flat_strs _, ?_⟩
      rw [inV_str]
      refine ⟨_, rfl, ?_⟩
      by_cases c : r.par ∈ belowR n (RR (rs.take i))
      · refine ifT (decide_eq_true c) ?_
        refine ⟨_, rfl, .inl ⟨rfl, _, K74.SqL.of' h1⟩, _, rfl, t, _, _, _, rfl, rfl, hT, rfl, _, _, _, rfl, rfl, h1, ?_, ⟨_, rfl⟩, e1.mut hl, ?_⟩
        · have := below_len n (RR (rs.take i))
          rw [List.length_reverse, List.length_map, List.length_take] at this
          rw [List.length_map, sizeLine_eq]
          omega
        · rw [upd_same, RR_take hx, below_cons, if_pos c, List.map_append]
          rfl
      · refine ifF (decide_eq_false c) ⟨⟨_, rfl⟩, e1, ?_⟩
        rw [h1, RR_take hx, below_cons, if_neg c]
    · obtain ⟨⟨z, rfl⟩, e1, h1⟩ := p
      refine ⟨_, rfl, k l H' hl e1 ?_⟩
      rw [h1, take_len]
theorem ok_l_charged (T : Tx K mg) : Has P w K mg base CX0 2 d_l_charged P_l_charged (spCharged K) := by
  have H_l_below : Has P w K mg base CX0 1 d_l_below P_l_below (spLBelow K) := ok_l_below T
  refine has0 T _ at_d_l_charged sc_l_charged (fun fd F => b_l_charged F) (fun vs H Q E h => ?_) (fun cdv A outer s H vs Q E hr h => ?_)
  · obtain ⟨a, d, n, rs, ls, S, rfl, _⟩ := h
    rfl
  · obtain ⟨a, d, n, rs, ls, S, rfl, hR, hz, hzl, hd, k⟩ := h
    have hu := hu_of hr
    have nd := sc_l_charged.nd
    refine ⟨_, (pss_cons (ps_set (i := 3) nd rfl (Or.inr rfl) (pe_cl H_l_below hr (by first | decide | omega) T.g_l_below pass0 (pa_cons (pv 0) (pa_cons (pv 2) pa_nil))))
        (pss_one (ps_ret (pe_callB (cr_sum rfl) (by rfl) T.z_sum (by decide +kernel) (pa_cons (pe_lockO (pe_lc (own := [("_law_leaf", 4)]) (g := gName 4) rfl nd (pi_keys (pv 1)) (blkOk_by (N := N_l_charged) (sc := defScope s_l_charged) (by decide +kernel)) (fun _ _ _ _ _ => pg_name (i := 4) nd rfl (Or.inl rfl)) (fun _ _ _ _ _ => (pts_one (pt_cmpR (opIn K rfl) (pv 4) (pv 3) (by rfl)))) (fun _ _ _ _ _ => (pe_dget hu (pv 1) (pv 4) (fun _ _ => rfl))))) pa_nil))))), ?_⟩
    refine ⟨_, rfl, _, rfl, a, n, rs, rfl, hR, hz, fun l H1 hl e1 hl1 => ?_⟩
    refine keysS (e1.rd hd) hzl (fun x => if decide (x ∈ belowR n (RR rs)) = true then some (V.int (S x)) else none)
      (fun od Hl h1 h2 Q1 q1 => ⟨_, rfl, q1⟩) (fun x od Hl H' hx h1 h2 e Q q => ?_) (fun p H2 hp e2 h2 => ?_)
    · have hll : Hl l = some (.lst ((belowR n (RR rs)).map V.str)) := by
        rw [h2 l (K74.Rd.ne_lst (e1.rd hd) hl1)]
        exact hl1
      refine ⟨rfl, _, rfl, _, rfl, _, _, rfl, .inl (K74.SqL.of' (e _ _ hll)), rfl, flat_strs _, ?_⟩
      rw [inV_str]
      refine ⟨_, rfl, ?_⟩
      have qq := fun H4 e4 => q H4 e4
      by_cases c : x ∈ belowR n (RR rs)
      · rw [if_pos (decide_eq_true c)] at qq
        exact ifT (decide_eq_true c) ⟨_, rfl, _, rfl, d, _, rfl, get_fm (.inr ⟨od, e _ _ h1⟩) hx, qq _ (Ex.refl _)⟩
      · rw [if_neg (by rw [decide_eq_false c]; decide)] at qq
        exact ifF (decide_eq_false c) (qq _ (Ex.refl _))
    · refine ⟨p, _, rfl, K74.SqL.of' (h2.trans ?_), k H2 (e1.trans e2)⟩
      rw [filterMap_if, List.map_map]
      rfl
theorem ok_l_path (T : Tx K mg) : Has P w K mg base CX0 1 d_l_path P_l_path (spPath K) := by
  refine has0 T _ at_d_l_path sc_l_path (fun fd F => b_l_path F) (fun vs H Q E h => ?_) (fun cdv A outer s H vs Q E hr h => ?_)
  · obtain ⟨a, n, rs, rfl, _⟩ := h
    rfl
  · obtain ⟨a, n, rs, rfl, hR, hw, hn, k⟩ := h
    have hu := hu_of hr
    have nd := sc_l_path.nd
    refine ⟨_, (pss_cons (ps_set (i := 2) nd rfl (Or.inl rfl) (pe_lst pa_nil))
        (pss_cons (ps_while PassesOwn.never (pt_cmpR op_ne (pv 1) pe_str (nomark _))
          (pss_cons (ps_set (i := 3) nd rfl (Or.inl rfl) (pe_ix (ixL K rfl) (pe_lc (own := [("_law_one", 4)]) (g := gName 4) rfl nd (pi_list (pv 0)) (blkOk_by (N := N_l_path) (sc := defScope s_l_path) (by decide +kernel)) (fun _ _ _ _ _ => pg_name (i := 4) nd rfl (Or.inl rfl)) (fun _ _ _ _ _ => (pts_one (pt_cmpR op_eq (pe_ix (ixT K rfl) (pv 4) pe_int (fun _ _ => rfl)) (pv 1) (nomark _)))) (fun _ _ _ _ _ => (pv 4))) pe_int (fun _ _ => rfl)))
            (pss_cons (ps_expr (pe_bm PySem.F.plainAttrs_list PySem.F.slot_list_insert PySem.F.type_list_insert mt_insert (pv 2) (pa_cons pe_int (pa_cons (pv 3) pa_nil))))
            (pss_one (ps_set (i := 1) nd rfl (Or.inr rfl) (pe_ix (ixT K rfl) (pv 3) pe_int (fun _ _ => rfl)))))))
        (pss_one (ps_ret (pv 2))))), ?_⟩
    refine ⟨by show 0 ≤ sizeLine; decide, fun l hl => ?_⟩
    have e0 : Ex H (upd H l (.lst [])) := Ex.new hl
    refine ⟨fun m σ H' => ∃ (x : Str) (ys : List V) (cs : List RowD) (z3 z4 : Option V), σ = [some (.ref a), some (.str x), some (.ref l), z3, z4] ∧ Ex H H' ∧ H' l = some (.lst ys) ∧ Reps (RowR K) H' ys cs ∧ pathR (RR rs) n = pathR (RR rs) x ++ cs.map (·.nm) ∧ (∀ c, c ∈ cs → c ∈ rs) ∧ (x = "" ∨ x ∈ nms rs) ∧ m = (pathR (RR rs) x).length,
      ⟨_, n, [], [], _, _, rfl, e0, upd_same, ⟨[], rfl, rfl, fun p h => by cases h⟩, by simp, (fun c h => by cases h), hn, rfl⟩, ?_⟩
    rintro m σ H' ⟨x, ys, cs, z3, z4, rfl, e1, h1, r1, p1, m1, hx, rfl⟩
    refine ⟨_, rfl, rfl, _, rfl, ?_⟩
    by_cases c : x = ""
    · subst c
      refine ifF (by simp) ⟨_, rfl, k l H' ys cs hl e1 h1 r1 ?_ m1⟩
      rw [p1, path_root hw.wf]
      rfl
    · obtain ⟨r, hr1, hr2⟩ := List.mem_map.mp (hx.resolve_left c)
      subst hr2
      refine ifT (by simp [c]) ⟨fun σ' H2 => ∃ (x : Str) (ys : List V) (cs : List RowD) (z3 z4 : Option V), σ' = [some (.ref a), some (.str x), some (.ref l), z3, z4] ∧ Ex H H2 ∧ H2 l = some (.lst ys) ∧ Reps (RowR K) H2 ys cs ∧ pathR (RR rs) n = pathR (RR rs) x ++ cs.map (·.nm) ∧ (∀ c, c ∈ cs → c ∈ rs) ∧ (x = "" ∨ x ∈ nms rs) ∧ (pathR (RR rs) x).length < (pathR (RR rs) r.nm).length, ?_, ?_⟩
      · rintro σ' H2 ⟨x', ys', cs', z3', z4', rfl, h1', h2', h3', h4', h5', h6', h7'⟩
        exact ⟨_, h7', x', ys', cs', z3', z4', rfl, h1', h2', h3', h4', h5', h6', rfl⟩
      · refine ⟨_, rfl, a, rfl, (hR.ex e1).sq, fun D hD => ?_⟩
        refine lc_rowsR (RowR K) (fun _ _ _ _ e h => h.keep e) (hR.ex e1) hw.few (fun q => if decide (q.nm = r.nm) = true then some q else none) hD (fun i t q cv H3 hb e hT hc Q q1 => ?_) (fun H3 zs e3 h3 r3 => ?_)
        · refine ⟨rfl, _, rfl, t, _, _, _, rfl, rfl, hT, rfl, _, rfl, rfl, _, rfl, ?_⟩
          by_cases c2 : q.nm = r.nm
          · rw [if_pos (decide_eq_true c2)] at q1
            exact ifT (by simp [c2]) ⟨_, rfl, q1 _ _ (Ex.refl _) ⟨_, rfl, t, cv, rfl, hT, hc⟩⟩
          · rw [if_neg (by simp [c2])] at q1
            exact ifF (by simp [c2]) (q1 _ _ (Ex.refl _) rfl)
        · rw [filterMap_ifS, hw.row hr1] at r3
          obtain ⟨y, hy, t, cv, rfl, hT, hc⟩ := r3.get (i := 0) rfl
          have h4 := e3 _ _ h1
          refine ⟨_, _, _, V.ref t, rfl, rfl, K74.SqL.of' h3, atI_nat hy, ?_⟩
          · have kt : KeepT H3 (upd H3 l (.lst (ys.take (0 : Int).toNat ++ [.ref t] ++ ys.drop (0 : Int).toNat))) := KeepT.lst h4
            have r4 : Reps (RowR K) H3 ys cs := r1.keep (fun _ _ _ _ e h => h.keep e) e3.keepT
            have hlen : ys.length < sizeLine := by
              rw [r1.len, sizeLine_eq]
              have := hw.path_le n
              rw [p1, List.length_append, List.length_map] at this
              omega
            refine ⟨_, rfl, .inl ⟨rfl, _, K74.SqL.of' h4⟩, _, rfl, l, ys, 0, .ref t, rfl, rfl, h4, hlen, by decide, by decide, ?_⟩
            refine ⟨_, rfl, t, _, _, _, rfl, rfl, kt.t hT, rfl, ?_⟩
            refine ⟨r.par, .ref t :: ys, r :: cs, _, _, rfl, (e1.trans e3).mut hl, ?_, ?_, ?_, ?_, hw.par_in hr1, ?_⟩
            · rw [upd_same]
              rfl
            · exact Reps.cons (RowR.keep kt ⟨t, cv, rfl, hT, hc⟩) (r4.keep (fun _ _ _ _ e h => h.keep e) kt)
            · rw [p1, hw.path hr1]
              simp
            · intro c hc
              rcases List.mem_cons.mp hc with e | e
              · rw [e]
                exact hr1
              · exact m1 c e
            · rw [hw.path hr1]
              simp
theorem ok_l_way (T : Tx K mg) : Has P w K mg base CX0 2 d_l_way P_l_way (spWay K) := by
  have H_l_path : Has P w K mg base CX0 1 d_l_path P_l_path (spPath K) := ok_l_path T
  refine has0 T _ at_d_l_way sc_l_way (fun fd F => b_l_way F) (fun vs H Q E h => ?_) (fun cdv A outer s H vs Q E hr h => ?_)
  · obtain ⟨a, n, rs, rfl, _⟩ := h
    rfl
  · obtain ⟨a, n, rs, rfl, hR, hw, hn, k⟩ := h
    have nd := sc_l_way.nd
    refine ⟨_, (pss_one (ps_ret (pe_op op_cat (pe_lst (pa_cons pe_str pa_nil)) (pe_lc (own := [("_law_row", 2)]) (g := gName 2) (tt := tYes) rfl nd (pi_list (pe_cl H_l_path hr (by first | decide | omega) T.g_l_path pass0 (pa_cons (pv 0) (pa_cons (pv 1) pa_nil)))) (blkOk_by (N := N_l_way) (sc := defScope s_l_way) (by decide +kernel)) (fun _ _ _ _ _ => pg_name (i := 2) nd rfl (Or.inl rfl)) (fun _ _ _ _ _ => pts_nil) (fun _ _ _ _ _ => (pe_ix (ixT K rfl) (pv 2) pe_int (fun _ _ => rfl))))))), ?_⟩
    refine ⟨by show 1 ≤ sizeLine; decide, fun l hl => ?_⟩
    have e0 : Ex H (upd H l (.lst [.str ""])) := Ex.new hl
    refine ⟨_, rfl, _, rfl, a, n, rs, rfl, hR.ex e0, hw, hn, fun p H1 ys cs hp e1 h1 r1 c1 c2 => ?_⟩
    have hcs : cs.length ≤ 8 := by
      have := hw.path_le n
      rw [← c1, List.length_map] at this
      exact this
    refine ⟨p, rfl, (rowsAt_of_reps h1 r1).sq, fun D hD => ?_⟩
    refine lc_rows (rowsAt_of_reps h1 r1) hcs (fun r => some (V.str r.nm)) hD (fun i t r cv H' hb e hT hc Q q => ?_) (fun H2 e2 h2 => ?_)
    · exact ⟨rfl, _, rfl, t, _, _, _, rfl, rfl, hT, rfl, q _ (Ex.refl _)⟩
    · rw [filterMap_some] at h2
      have e3 := (e0.trans e1).trans e2
      refine ⟨l, D, _, _, rfl, rfl, e2 _ _ (e1 _ _ upd_same), h2, ?_, fun q hq => ?_⟩
      · rw [List.length_map, sizeLine_eq]
        simp only [List.length_cons, List.length_nil]
        omega
      · refine k q _ (e3.free hq) (e3.trans (Ex.new hq)) ?_
        rw [upd_same, ← c1, List.map_cons, List.map_map]
        rfl
end
end K74
set_option Elab.async false
set_option linter.all false
set_option maxRecDepth 100000
set_option maxHeartbeats 4000000
/-! x in o by an own __contains__. -/
namespace K74
open PySem PySem.Spec PyProof.Rows L2
/-- y is an instance of the class at C; sp: what its __contains__ promises -/
def rOwnIn (C : Addr) (sp : Sp) (neg : Bool) (E : XK) : R2 := fun x y H Q => ∃ a dx fs, y = .ref a ∧ H a = some (.ins C dx fs) ∧ sp [y, x] H (fun v H' => ∃ b, v = .bl b ∧ Q (.bl (if neg then !b else b)) H') E
section
variable {X : Cx} {CX : CXT} {k : Nat} {f C : Addr} {fd : FuncData} {ps : List Str} {sp : Sp} {E : XK} {Q : VK} {pins : List (Addr × Obj)} {s : Shared} {σ : L2.St} {H : Hp} {x y : V} {v u : Value} {neg : Bool}
theorem own_contains {R : Bool → Shared → Prop} (F : FnOk X.prog X.w X.K X.mg X.base CX k f fd ps sp) (hr : Room k X.A) (hb : L2.Binds X.K fd ps []) (hm : Meth X.K C "__contains__" f) (hx : Passes CX X E)
    (I : Inv X pins σ H s) (rx : RelV x v) (ry : RelV y u) (h : rOwnIn C sp neg E x y H Q) (hR : ∀ b H' s', Inv X pins σ H' s' → Q (.bl (if neg then !b else b)) H' → R b s') :
    wpAny (model X.prog X.w) X.A (contains u v) R X.xe s := by
  obtain ⟨a, dx, fs, rfl, e, q⟩ := h
  obtain rfl : u = Value.ref a := ry
  obtain ⟨mA, O, _, _, _, _⟩ := ins_get I.hok e
  have L1 : PySem.W.Looks (model X.prog X.w) s.heap (specialOf (.ref a) "__contains__") (some (.ref f)) :=
    ((PySem.W.Looks.ld O.obj).andThen PySem.W.Looks.now).andThen (PySem.W.looks_findIn I.kIn hm.at_)
  unfold contains
  refine wpAny_holding ?_
  show wpAny _ _ (specialOf (.ref a) "__contains__" >>= _) _ _ _
  refine wpAny_bind (L1 _ _ _ _ (fun _ _ h => h) ?_)
  show wpAny _ _ (callSpecialUnlessNone? (.ref a) "__contains__" [v] _ >>= _) _ _ _
  refine wpAny_bind ?_
  unfold callSpecialUnlessNone?
  refine wpAny_bind (L1 _ _ _ _ (fun _ _ h => h) ?_)
  refine wpAny_holding ?_
  refine wpAny_bind ((PySem.W.bind_fn I.kIn (.ref a) (beq_iff_eq.mp hm.fn)) _ _ _ _ (fun _ _ h => h) ?_)
  show wpAny _ _ (call (.ref f) [.ref a, v] >>= _) _ _ _
  refine wpAny_bind ?_
  refine wpAny_mono (run_fn (us := [.ref a, v]) (vs := [.ref a, x]) F hr hb .nil hx I (.cons rfl (.cons rx .nil)) q) (fun w s1 hq => ?_) fun _ _ e => e
  obtain ⟨z, H1, I1, rz, b, rfl, q1⟩ := hq
  cases rz
  exact wpAny_pure (wpAny_truthy_bool (hR b H1 s1 I1 q1))
theorem op_ownIn (F : FnOk X.prog X.w X.K X.mg X.base CX k f fd ps sp) (hr : Room k X.A) (hb : L2.Binds X.K fd ps []) (hm : Meth X.K C "__contains__" f) (hx : Passes CX X E) : OpR X (compareOp .In) (rOwnIn C sp false E) := by
  intro pins s σ H x y v u Q I rx ry h
  show wpAny _ _ (contains u v >>= _) _ _ _
  exact wpAny_bind (own_contains F hr hb hm hx I rx ry h fun b H' s' I' q => wpAny_pure ⟨.bl b, H', I', rfl, q⟩)
theorem op_ownNotIn (F : FnOk X.prog X.w X.K X.mg X.base CX k f fd ps sp) (hr : Room k X.A) (hb : L2.Binds X.K fd ps []) (hm : Meth X.K C "__contains__" f) (hx : Passes CX X E) : OpR X (compareOp .NotIn) (rOwnIn C sp true E) := by
  intro pins s σ H x y v u Q I rx ry h
  show wpAny _ _ (contains u v >>= _) _ _ _
  exact wpAny_bind (own_contains F hr hb hm hx I rx ry h fun b H' s' I' q => wpAny_pure ⟨.bl (!b), H', I', rfl, q⟩)
end
section
variable {X : Cx} {CX : CXT} {k j : Nat} {C : Addr} {d : He.DefD} {ps : List Str} {sp : Sp} {E : XK} {a b : Expr} {ta tb : TE} {pos : Pos}
theorem op_ownNotInD (c : Has X.prog X.w X.K X.mg X.base CX k d ps sp) (hr : Room j X.A) (hk : k ≤ j) (hm : Meth X.K C "__contains__" (He.fAd X.K d.at_)) (hx : Passes CX X E) : OpR X (compareOp .NotIn) (rOwnIn C sp true E) := by
  obtain ⟨fd, F, b, kp⟩ := c
  exact op_ownNotIn F (hr.mono hk) b hm hx
end
end K74
set_option Elab.async false
set_option linter.all false
set_option maxRecDepth 100000
namespace K74
open PySem PySem.Spec PyProof.Rows L2
theorem ba {a b : Bool} (h : (a && b) = true) : a = true ∧ b = true := Bool.and_eq_true_iff.mp h
section
variable {K : PySem.W.Frag} {mg : Str → Option Value}
theorem ins_of {x : Str} (c : Cls K (He.ga K x)) (h : insB K x = true) : C8.InsC K (He.ga K x) := by
  obtain ⟨h1, h⟩ := ba h
  obtain ⟨h2, h⟩ := ba h
  obtain ⟨h3, h⟩ := ba h
  obtain ⟨h4, h5⟩ := ba h
  exact ⟨c, He.eqO_ok h1, He.eqO_ok h2, of_decide_eq_true h3, of_decide_eq_true h4, of_decide_eq_true h5⟩
theorem exc_of {x : Str} (h : excB K x = true) : ExcC K (He.ga K x) ∧ PySem.W.kitOne K (.ref (He.ga K x)) (.ref (He.ga K x)) = some true ∧ PySem.W.kitOne K (.ref (He.ga K x)) (.type "ValueError") = some true := by
  obtain ⟨g1, h⟩ := ba h
  obtain ⟨g2, h⟩ := ba h
  obtain ⟨g3, h⟩ := ba h
  obtain ⟨g4, h⟩ := ba h
  obtain ⟨h, g5⟩ := ba h
  obtain ⟨h1, h⟩ := ba h
  obtain ⟨h2, h⟩ := ba h
  obtain ⟨h3, h⟩ := ba h
  obtain ⟨h4, h5⟩ := ba h
  exact ⟨⟨He.eqO_ok g1, He.eqO_ok g2, of_decide_eq_true g3, g4, He.eqO_ok h1, He.eqO_ok h2, of_decide_eq_true h3, of_decide_eq_true h4⟩, of_decide_eq_true h5, of_decide_eq_true g5⟩
theorem kit_of {x y : Str} {b : Bool} (h : kitB K x y b = true) : PySem.W.kitOne K (.ref (He.ga K x)) (.ref (He.ga K y)) = some b := of_decide_eq_true h
theorem Tx.i_Tree (T : Tx K mg) : C8.InsC K (He.ga K "Tree") := ins_of T.c_Tree (ba T.ext).1
end
end K74
set_option Elab.async false
set_option linter.all false
set_option maxRecDepth 100000
set_option maxHeartbeats 4000000
namespace K74
open PySem PySem.Spec PyProof.Rows L2
section
variable {P : Program} {w : World} {K : PySem.W.Frag} {mg : Str → Option Value} {base : Heap}
def TreeAt (K : PySem.W.Frag) (H : Hp) (tr : Addr) (rs : List RowD) : Prop := ∃ (dx ln bn bl : Addr) (bnk blk : List (Key × V)), H tr = some (.ins (He.ga K "Tree") dx [("lines", .ref ln), ("by_name", .ref bn), ("below", .ref bl)]) ∧ RowsAt K H ln rs ∧ Rd H bn (.dK bnk) ∧
  (∀ r, r ∈ rs → ∃ v, valV bnk (.inr r.nm) = some v ∧ RowR K H v r) ∧ (∀ n, n ∉ nms rs → valV bnk (.inr n) = none) ∧ Rd H bl (.dK blk) ∧ (∀ n : Str, n = "" ∨ n ∈ nms rs → ∃ ka, valV blk (.inr n) = some (.ref ka) ∧ SqL K H ka ((kids (prs rs) n).map V.str))
theorem TreeAt.ex {H H' : Hp} {tr : Addr} {rs : List RowD} (e : Ex H H') (h : TreeAt K H tr rs) : TreeAt K H' tr rs := by
  obtain ⟨dx, ln, bn, bl, bnk, blk, h1, h2, h3, h4, h5, h6, h7⟩ := h
  exact ⟨dx, ln, bn, bl, bnk, blk, e _ _ h1, h2.ex e, e.rd h3, fun r hr => (h4 r hr).imp fun v h => ⟨h.1, h.2.keep e.keepT⟩, h5, e.rd h6, fun n hn => (h7 n hn).imp fun k h => ⟨h.1, e.l h.2⟩⟩
theorem blT {p : Prop} [Decidable p] (h : p) : V.bl (decide p) = V.bl true := by rw [decide_eq_true h]
theorem blF {p : Prop} [Decidable p] (h : ¬ p) : V.bl (decide p) = V.bl false := by rw [decide_eq_false h]
theorem CapR.keep {H H' : Hp} (e : Ex H H') {v : V} {c : Option (Int × Int)} (h : CapR K H v c) : CapR K H' v c := by
  cases c with
  | none => exact h
  | some q =>
    obtain ⟨c, h1, h2⟩ := h
    exact ⟨c, h1, e.t h2⟩
theorem tyT {H : Hp} {c : Addr} {xs : List V} (h : SqT K H c xs) : TyX K H (.ref c) (.type "tuple") := by
  rcases h with (h | ⟨o, h⟩) | ⟨o, its, n, h1, h2, _⟩
  · exact .base (.tup h)
  · exact .fTuple h
  · exact .kTuple h1 h2
theorem tyL {H : Hp} {c : Addr} {xs : List V} (h : SqL K H c xs) : TyX K H (.ref c) (.type "list") := by
  rcases h with (h | ⟨o, h⟩) | ⟨o, its, n, h1, h2, _⟩
  · exact .base (.lst h)
  · exact .base (.frz h)
  · exact .kList h1 h2
theorem tyD {H : Hp} {c : Addr} {kvs : List (Key × V)} (h : Rd H c (.dK kvs)) : TyX K H (.ref c) (.type "dict") := by
  rcases h with h | ⟨o, h⟩
  · exact .base (.dK h)
  · exact .fDict h
def spIsFr (K : PySem.W.Frag) : Sp := fun vs H Q _ => ∃ (c : Addr) (q : Int × Int), vs = [.ref c] ∧ SqT K H c [.int q.1, .int q.2] ∧ CapOk (some q) ∧ Q (.bl true) H
def spIsName : Sp := fun vs H Q _ => ∃ x : Str, vs = [.str x] ∧ NameOk x ∧ ∀ H', Ex H H' → Q (.bl true) H'
def spIsCap (K : PySem.W.Frag) : Sp := fun vs H Q _ => ∃ (v : V) (c : Option (Int × Int)), vs = [v] ∧ CapR K H v c ∧ CapOk c ∧ Q (.bl true) H
def spRowFits (K : PySem.W.Frag) : Sp := fun vs H Q _ => ∃ (t l : Addr) (r : RowD) (cv : V) (ns : List Str), vs = [.ref t, .ref l] ∧ SqT K H t [.str r.nm, .str r.par, .int r.wt, cv] ∧ CapR K H cv r.cap ∧ SqL K H l (ns.map V.str) ∧ RowOk r ∧ r.nm ∉ ns ∧ (r.par = "" ∨ r.par ∈ ns) ∧ ∀ H', Ex H H' → Q (.bl true) H'
abbrev N_is_fraction : List Str := ["thing"]
abbrev P_is_fraction : List Str := ["thing"]
theorem sc_is_fraction : FnScope N_is_fraction P_is_fraction (defScope s_is_fraction) := C8.fnScope_by (by decide +kernel)
theorem b_is_fraction {K : PySem.W.Frag} {fd : FuncData} (F : FunD K d_is_fraction.name d_is_fraction.qual d_is_fraction.params d_is_fraction.body d_is_fraction.scope (d_is_fraction.dvs K) (d_is_fraction.kws K) (He.fAd K d_is_fraction.at_) fd) : L2.Binds K fd P_is_fraction [] :=
  FunD.bindsN F fun _ _ _ _ _ _ us hl => match us, hl with | [_], _ => rfl
abbrev N_is_name : List Str := ["thing", "sign"]
abbrev P_is_name : List Str := ["thing"]
theorem sc_is_name : FnScope N_is_name P_is_name (defScope s_is_name) := C8.fnScope_by (by decide +kernel)
theorem b_is_name {K : PySem.W.Frag} {fd : FuncData} (F : FunD K d_is_name.name d_is_name.qual d_is_name.params d_is_name.body d_is_name.scope (d_is_name.dvs K) (d_is_name.kws K) (He.fAd K d_is_name.at_) fd) : L2.Binds K fd P_is_name [] :=
  FunD.bindsN F fun _ _ _ _ _ _ us hl => match us, hl with | [_], _ => rfl
abbrev N_is_cap : List Str := ["thing"]
abbrev P_is_cap : List Str := ["thing"]
theorem sc_is_cap : FnScope N_is_cap P_is_cap (defScope s_is_cap) := C8.fnScope_by (by decide +kernel)
theorem b_is_cap {K : PySem.W.Frag} {fd : FuncData} (F : FunD K d_is_cap.name d_is_cap.qual d_is_cap.params d_is_cap.body d_is_cap.scope (d_is_cap.dvs K) (d_is_cap.kws K) (He.fAd K d_is_cap.at_) fd) : L2.Binds K fd P_is_cap [] :=
  FunD.bindsN F fun _ _ _ _ _ _ us hl => match us, hl with | [_], _ => rfl
abbrev N_row_fits : List Str := ["row", "names"]
abbrev P_row_fits : List Str := ["row", "names"]
theorem sc_row_fits : FnScope N_row_fits P_row_fits (defScope s_row_fits) := C8.fnScope_by (by decide +kernel)
theorem b_row_fits {K : PySem.W.Frag} {fd : FuncData} (F : FunD K d_row_fits.name d_row_fits.qual d_row_fits.params d_row_fits.body d_row_fits.scope (d_row_fits.dvs K) (d_row_fits.kws K) (He.fAd K d_row_fits.at_) fd) : L2.Binds K fd P_row_fits [] :=
  FunD.bindsN F fun _ _ _ _ _ _ us hl => match us, hl with | [_, _], _ => rfl
theorem ok_is_fraction (T : Tx K mg) : Has P w K mg base CX0 2 d_is_fraction P_is_fraction (spIsFr K) := by
  have H_is_whole : Has P w K mg base CX0 1 d_is_whole ["thing", "least"] spIsWhole := ok_is_whole T
  have H_divisor_of : Has P w K mg base CX0 1 d_divisor_of P_divisor_of spDivisor := ok_divisor_of T
  refine has0 T _ at_d_is_fraction sc_is_fraction (fun fd F => b_is_fraction F) (fun vs H Q E h => ?_) (fun cdv A outer s H vs Q E hr h => ?_)
  · obtain ⟨c, q, rfl, _⟩ := h
    rfl
  · obtain ⟨c, q, rfl, hT, ⟨h1, h2, h3⟩, k⟩ := h
    have nd := sc_is_fraction.nd
    refine ⟨_, (pss_cons (ps_if (PW.pt (pw_or (pt_not (pt_val (pe_callB call_isi (by rfl) T.z_isinstance (by decide +kernel) (pa_cons (pv 0) (pa_cons (pe_bltn (v := .ty "tuple") (by rfl) T.z_tuple (by decide +kernel) rfl) pa_nil))))) (pw_or (pt_cmpR op_ne (pe_callB (callLen K rfl) (by rfl) T.z_len (by decide +kernel) (pa_cons (pv 0) pa_nil)) pe_int (nomark _)) (pw_or (pt_not (pt_val (pe_cl H_is_whole hr (by first | decide | omega) T.g_is_whole pass0 (pa_cons (pe_ix (ixT K rfl) (pv 0) pe_int (fun _ _ => rfl)) (pa_cons pe_int pa_nil))))) (pw_or1 (pt_not (pt_val (pe_cl H_is_whole hr (by first | decide | omega) T.g_is_whole pass0 (pa_cons (pe_ix (ixT K rfl) (pv 0) pe_int (fun _ _ => rfl)) (pa_cons pe_int pa_nil)))))))))) (pss_one (ps_ret pe_bl)) pss_nil)
        (pss_one (ps_ret (pe_cmpR op_eq (pe_cl H_divisor_of hr (by first | decide | omega) T.g_divisor_of pass0 (pa_cons (pe_ix (ixT K rfl) (pv 0) pe_int (fun _ _ => rfl)) (pa_cons (pe_ix (ixT K rfl) (pv 0) pe_int (fun _ _ => rfl)) pa_nil))) pe_int (nomark _))))), ?_⟩
    refine ⟨_, rfl, _, _, _, _, true, rfl, .ty "tuple", tyT hT, kit_ty (by decide +kernel), true, rfl, ifF rfl ?_⟩
    refine ⟨_, rfl, _, _, rfl, .inr hT, rfl, _, rfl, ifF rfl ?_⟩
    refine ⟨_, rfl, c, _, _, _, rfl, rfl, hT, rfl, q.1, 0, rfl, _, rfl, ifF (by simp [h1]) ?_⟩
    refine ⟨_, rfl, c, _, _, _, rfl, rfl, hT, rfl, q.2, 1, rfl, _, rfl, ifF (by simp; omega) ?_⟩
    refine ⟨_, rfl, c, _, _, _, rfl, rfl, hT, rfl, _, rfl, c, _, _, _, rfl, rfl, hT, rfl, q.1, q.2, rfl, h1, Int.le_of_lt h2, rfl, ?_⟩
    have e : decide (V.int (gcdI q.1 q.2) = V.int 1) = true := by rw [h3]; rfl
    rw [e]
    exact k
theorem ok_is_name (T : Tx K mg) : Has P w K mg base CX0 1 d_is_name P_is_name spIsName := by
  refine has0 T _ at_d_is_name sc_is_name (fun fd F => b_is_name F) (fun vs H Q E h => ?_) (fun cdv A outer s H vs Q E hr h => ?_)
  · obtain ⟨x, rfl, _⟩ := h
    rfl
  · obtain ⟨x, rfl, ⟨h1, h2, h3⟩, k⟩ := h
    obtain ⟨tM, hm_MOST_SIGNS⟩ := T.v_MOST_SIGNS
    obtain ⟨tL, hm_LETTERS⟩ := T.v_LETTERS
    have nd := sc_is_name.nd
    refine ⟨_, (pss_one (ps_ret (pe_and (pe_callB call_isi (by rfl) T.z_isinstance (by decide +kernel) (pa_cons (pv 0) (pa_cons (pe_bltn (v := .ty "str") (by rfl) T.z_str (by decide +kernel) rfl) pa_nil))) (pe_and (pe_chain op_le op_le pe_int (pe_callB call_len_str (by rfl) T.z_len (by decide +kernel) (pa_cons (pv 0) pa_nil)) (pe_glob (v := .int 8) (by rfl) hm_MOST_SIGNS ⟨_, rfl⟩)) (pe_one (pe_callB (cr_all rfl) (by rfl) T.z_all (by decide +kernel) (pa_cons (pe_lc (own := [("sign", 1)]) (g := gName 1) (tt := tYes) rfl nd (pi_str (pv 0)) (blkOk_by (N := N_is_name) (sc := defScope s_is_name) (by decide +kernel)) (fun _ _ _ _ _ => pg_name (i := 1) nd rfl (Or.inl rfl)) (fun _ _ _ _ _ => pts_nil) (fun _ _ _ _ _ => (pe_cmpR op_in_sign (pv 1) (pe_glob (v := .str "abcdefghijklmnopqrstuvwxyz") (by rfl) hm_LETTERS ⟨_, rfl⟩) (by rfl)))) pa_nil))))))), ?_⟩
    refine ⟨_, rfl, _, _, _, _, true, rfl, .ty "str", .base (.str x), kit_ty (by decide +kernel), true, rfl, iteT ?_⟩
    have hz : x.length ≤ sizeLine := by rw [sizeLine_eq]; omega
    refine ⟨_, rfl, _, rfl, hz, _, _, rfl, rfl, true, blT (by omega), iteT ⟨_, _, rfl, rfl, true, blT (by omega), iteT ?_⟩⟩
    refine ⟨_, rfl, x, rfl, fun D hD => ?_⟩
    refine lc_it (Its x) x.cps.toList PureR (fun _ _ _ _ _ h => h) (fun _ => some (V.bl true)) hD (by rw [Array.length_toList]; have : x.cps.size = x.length := rfl; omega) (fun i b H' hb _ => ?_) (fun H' _ => ?_) (fun i b H' y H'' hb e yd => ?_) (fun H' ys e hy hr => ?_)
    · have := (List.getElem?_eq_some_iff.mp hb).1
      rwa [Array.length_toList] at this
    · show x.cps.size ≤ _
      rw [Array.length_toList]
      exact Nat.le_refl _
    · obtain ⟨rfl, c, hc, rfl⟩ := yd
      have ec : c = b := by
        rw [← Array.getElem?_toList, hb] at hc
        exact (Option.some.inj hc).symm
      subst ec
      refine ⟨Ex.refl _, fun Q q => ⟨rfl, _, rfl, c, _, rfl, rfl, ?_⟩⟩
      rw [decide_eq_true (h3 c (List.mem_of_getElem? hb))]
      exact q _ _ (Ex.refl _) ⟨_, rfl, rfl⟩
    · have e2 := hr.pure
      rw [filterMap_some] at e2
      refine ⟨D, x.cps.toList.map fun _ => true, rfl, K74.SqL.of' (by rw [hy, e2, List.map_map]; rfl), ?_⟩
      have : (x.cps.toList.map fun _ => true).all id = true := by rw [List.all_map, List.all_eq_true]; intro _ _; rfl
      rw [this]
      exact k _ e
theorem ok_is_cap (T : Tx K mg) : Has P w K mg base CX0 3 d_is_cap P_is_cap (spIsCap K) := by
  have H_is_fraction : Has P w K mg base CX0 2 d_is_fraction P_is_fraction (spIsFr K) := ok_is_fraction T
  refine has0 T _ at_d_is_cap sc_is_cap (fun fd F => b_is_cap F) (fun vs H Q E h => ?_) (fun cdv A outer s H vs Q E hr h => ?_)
  · obtain ⟨v, c, rfl, _⟩ := h
    rfl
  · obtain ⟨v, c, rfl, hc, ho, k⟩ := h
    have nd := sc_is_cap.nd
    refine ⟨_, (pss_one (ps_ret (pe_or (pe_cmpR op_isN (pv 0) pe_non (nomark _)) (pe_one (pe_cl H_is_fraction hr (by first | decide | omega) T.g_is_fraction pass0 (pa_cons (pv 0) pa_nil)))))), ?_⟩
    cases c with
    | none =>
      cases (show v = .non from hc)
      exact ⟨_, rfl, rfl, true, rfl, iteT k⟩
    | some q =>
      obtain ⟨c, rfl, hT⟩ := hc
      exact ⟨_, rfl, rfl, false, rfl, iteF ⟨_, rfl, c, q, rfl, hT, ho, k⟩⟩
theorem ok_row_fits (T : Tx K mg) : Has P w K mg base CX0 4 d_row_fits P_row_fits (spRowFits K) := by
  have H_is_whole : Has P w K mg base CX0 1 d_is_whole ["thing", "least"] spIsWhole := ok_is_whole T
  have H_is_name : Has P w K mg base CX0 1 d_is_name P_is_name spIsName := ok_is_name T
  have H_is_cap : Has P w K mg base CX0 3 d_is_cap P_is_cap (spIsCap K) := ok_is_cap T
  refine has0 T _ at_d_row_fits sc_row_fits (fun fd F => b_row_fits F) (fun vs H Q E h => ?_) (fun cdv A outer s H vs Q E hr h => ?_)
  · obtain ⟨t, l, r, cv, ns, rfl, _⟩ := h
    rfl
  · obtain ⟨t, l, r, cv, ns, rfl, hT, hc, hl, ho, h1, h2, k⟩ := h
    have nd := sc_row_fits.nd
    refine ⟨_, (pss_cons (ps_if (PW.pt (pw_or (pt_not (pt_val (pe_callB call_isi (by rfl) T.z_isinstance (by decide +kernel) (pa_cons (pv 0) (pa_cons (pe_bltn (v := .ty "tuple") (by rfl) T.z_tuple (by decide +kernel) rfl) pa_nil))))) (pw_or (pt_cmpR op_ne (pe_callB (callLen K rfl) (by rfl) T.z_len (by decide +kernel) (pa_cons (pv 0) pa_nil)) pe_int (nomark _)) (pw_or (pt_not (pt_val (pe_cl H_is_name hr (by first | decide | omega) T.g_is_name pass0 (pa_cons (pe_ix (ixT K rfl) (pv 0) pe_int (fun _ _ => rfl)) pa_nil)))) (pw_or1 (pt_cmpR (opIn K rfl) (pe_ix (ixT K rfl) (pv 0) pe_int (fun _ _ => rfl)) (pv 1) (by rfl))))))) (pss_one (ps_ret pe_bl)) pss_nil)
        (pss_cons (ps_if (PW.pt (pw_or (pt_not (pt_val (pe_callB call_isi (by rfl) T.z_isinstance (by decide +kernel) (pa_cons (pe_ix (ixT K rfl) (pv 0) pe_int (fun _ _ => rfl)) (pa_cons (pe_bltn (v := .ty "str") (by rfl) T.z_str (by decide +kernel) rfl) pa_nil))))) (pw_or1 (PW.pt (pw_and (pt_cmpR op_ne (pe_ix (ixT K rfl) (pv 0) pe_int (fun _ _ => rfl)) pe_str (nomark _)) (pw_and1 (pt_cmpR (opNin K rfl) (pe_ix (ixT K rfl) (pv 0) pe_int (fun _ _ => rfl)) (pv 1) (by rfl)))))))) (pss_one (ps_ret pe_bl)) pss_nil)
        (pss_one (ps_ret (pe_and (pe_cl H_is_whole hr (by first | decide | omega) T.g_is_whole pass0 (pa_cons (pe_ix (ixT K rfl) (pv 0) pe_int (fun _ _ => rfl)) (pa_cons pe_int pa_nil))) (pe_one (pe_cl H_is_cap hr (by first | decide | omega) T.g_is_cap pass0 (pa_cons (pe_ix (ixT K rfl) (pv 0) pe_int (fun _ _ => rfl)) pa_nil)))))))), ?_⟩
    refine ⟨_, rfl, _, _, _, _, true, rfl, .ty "tuple", tyT hT, kit_ty (by decide +kernel), true, rfl, ifF rfl ?_⟩
    refine ⟨_, rfl, _, _, rfl, .inr hT, rfl, _, rfl, ifF rfl ?_⟩
    refine ⟨_, rfl, t, _, _, _, rfl, rfl, hT, rfl, r.nm, rfl, ho.nm, fun H1 e1 => ⟨_, rfl, ifF rfl ?_⟩⟩
    have hT1 := e1.t hT
    have hl1 := e1.l hl
    refine ⟨_, rfl, t, _, _, _, rfl, rfl, hT1, rfl, _, rfl, l, _, rfl, .inl hl1, rfl, flat_strs _, ?_⟩
    rw [inV_str]
    refine ⟨_, rfl, ifF (decide_eq_false h1) ?_⟩
    refine ⟨_, rfl, t, _, _, _, rfl, rfl, hT1, rfl, _, _, _, _, true, rfl, .ty "str", .base (.str _), kit_ty (by decide +kernel), true, rfl, ifF rfl ?_⟩
    refine ⟨_, rfl, t, _, _, _, rfl, rfl, hT1, rfl, rfl, _, rfl, ?_⟩
    by_cases c : r.par = ""
    · refine ifF (by simp [c]) (ifF rfl ?_)
      exact ⟨_, rfl, t, _, _, _, rfl, rfl, hT1, rfl, r.wt, 1, rfl, true, blT ho.wt, iteT ⟨_, rfl, t, _, _, _, rfl, rfl, hT1, rfl, cv, r.cap, rfl, K74.CapR.keep e1 hc, ho.cap, k _ e1⟩⟩
    · refine ifT (by simp [c]) ⟨_, rfl, t, _, _, _, rfl, rfl, hT1, rfl, _, rfl, l, _, rfl, .inl hl1, rfl, flat_strs _, ?_⟩
      rw [inV_str]
      refine ⟨_, rfl, ifF (by rw [decide_eq_true (h2.resolve_left c)]; rfl) ?_⟩
      exact ⟨_, rfl, t, _, _, _, rfl, rfl, hT1, rfl, r.wt, 1, rfl, true, blT ho.wt, iteT ⟨_, rfl, t, _, _, _, rfl, rfl, hT1, rfl, cv, r.cap, rfl, K74.CapR.keep e1 hc, ho.cap, k _ e1⟩⟩
theorem val_tr {tr : List (V × RowD)} (nd : (tr.map fun p => p.2.nm).Nodup) {p : V × RowD} (hp : p ∈ tr) : valV (tr.map fun p => ((Sum.inr p.2.nm : Key), p.1)) (Sum.inr p.2.nm) = some p.1 := by
  induction tr with
  | nil => cases hp
  | cons b tr ih =>
    rw [List.map_cons] at nd
    have nd2 := List.nodup_cons.mp nd
    rw [List.map_cons]
    rcases List.mem_cons.mp hp with e | e
    · subst e
      exact valV_pos rfl
    · rw [valV_neg (fun z => nd2.1 (by rw [Sum.inr.inj z]; exact List.mem_map.mpr ⟨p, e, rfl⟩))]
      exact ih nd2.2 e
theorem val_trN {tr : List (V × RowD)} {n : Str} (h : ∀ p, p ∈ tr → p.2.nm ≠ n) : valV (tr.map fun p => ((Sum.inr p.2.nm : Key), p.1)) (Sum.inr n) = none := by
  induction tr with
  | nil => rfl
  | cons b tr ih =>
    rw [List.map_cons, valV_neg (fun z => h b List.mem_cons_self (Sum.inr.inj z))]
    exact ih fun p hp => h p (List.mem_cons_of_mem _ hp)
/-! ### the tree's making -/
def spTreeInit (K : PySem.W.Frag) : Sp := fun vs H Q _ => ∃ (x dx a : Addr) (rs : List RowD), vs = [.ref x, .ref a] ∧ H x = some (.ins (He.ga K "Tree") dx []) ∧ RowsAt K H a rs ∧ WfD rs ∧
  ∀ H', (∀ b o, b ≠ x → H b = some o → H' b = some o) → TreeAt K H' x rs → Q .non H'
abbrev N_Tree_init : List Str := ["self", "rows", "names", "index", "row"]
abbrev P_Tree_init : List Str := ["self", "rows"]
theorem sc_Tree_init : FnScope N_Tree_init P_Tree_init (defScope s_Tree_init) := C8.fnScope_by (by decide +kernel)
theorem b_Tree_init {K : PySem.W.Frag} {fd : FuncData} (F : FunD K d_Tree_init.name d_Tree_init.qual d_Tree_init.params d_Tree_init.body d_Tree_init.scope (d_Tree_init.dvs K) (d_Tree_init.kws K) (He.fAd K d_Tree_init.at_) fd) : L2.Binds K fd P_Tree_init [] :=
  FunD.bindsN F fun _ _ _ _ _ _ us hl => match us, hl with | [_, _], _ => rfl
theorem ok_Tree_init (T : Tx K mg) : Has P w K mg base CX0 5 d_Tree_init P_Tree_init (spTreeInit K) := by
  have H_row_fits : Has P w K mg base CX0 4 d_row_fits P_row_fits (spRowFits K) := ok_row_fits T
  refine has0 T _ at_d_Tree_init sc_Tree_init (fun fd F => b_Tree_init F) (fun vs H Q E h => ?_) (fun cdv A outer s H vs Q E hr h => ?_)
  · obtain ⟨x, dx, a, rs, rfl, _⟩ := h
    rfl
  · obtain ⟨x, dx, a, rs, rfl, hx, hR, hw, k⟩ := h
    have hu := hu_of hr
    have hz := hw.few
    have nd := sc_Tree_init.nd
    refine ⟨_, (pss_cons (ps_if (pt_not (pt_val (pe_callB call_isi (by rfl) T.z_isinstance (by decide +kernel) (pa_cons (pv 1) (pa_cons (pe_bltn (v := .ty "list") (by rfl) T.z_list (by decide +kernel) rfl) pa_nil))))) (pss_one ps_never) pss_nil)
        (pss_cons (ps_set (i := 2) nd rfl (Or.inl rfl) (pe_lst pa_nil))
        (pss_cons (ps_for PassesOwn.never rfl (pi_enum (by rfl) T.z_enumerate (pa_cons (pv 1) pa_nil)) (pgT (n := 2) K rfl rfl (pgs_cons (pg_name (i := 3) nd rfl (Or.inl rfl)) (pgs_cons (pg_name (i := 4) nd rfl (Or.inl rfl)) pgs_nil)))
          (pss_cons (ps_if (pt_not (pt_val (pe_cl H_row_fits hr (by first | decide | omega) T.g_row_fits pass0 (pa_cons (pv 4) (pa_cons (pv 2) pa_nil))))) (pss_one ps_never) pss_nil)
            (pss_one (ps_expr (pe_bm PySem.F.plainAttrs_list PySem.F.slot_list_append PySem.F.type_list_append mt_append (pv 2) (pa_cons (pe_ix (ixT K rfl) (pv 4) pe_int (fun _ _ => rfl)) pa_nil))))))
        (pss_cons (ps_fld (pv 0) (pe_callTy call_list_of (by rfl) T.z_list (by decide +kernel) (pa_cons (pv 1) pa_nil)) rfl)
        (pss_cons (ps_fld (pv 0) (pe_dc (own := [("row", 4)]) (g := gName 4) (tt := tYes) rfl nd (pi_list (pv 1)) (blkOk_by (N := N_Tree_init) (sc := defScope s_Tree_init) (by decide +kernel)) (fun _ _ _ _ _ => pg_name (i := 4) nd rfl (Or.inl rfl)) (fun _ _ _ _ _ => pts_nil) (fun _ _ _ _ _ => (pe_ix (ixT K rfl) (pv 4) pe_int (fun _ _ => rfl))) (fun _ _ _ _ _ => (pv 4))) rfl)
        (pss_cons (ps_fld (pv 0) (pe_disp (pps_cons pe_str (pe_lst pa_nil) pps_nil) (by rfl) (by rfl) (fun z => by cases z) (by decide)) rfl)
        (pss_one (ps_for PassesOwn.never rfl (pi_list (pv 1)) (pg_name (i := 4) nd rfl (Or.inl rfl))
          (pss_cons (ps_dput hu (peF K rfl (pv 0) rfl) (pe_ix (ixT K rfl) (pv 4) pe_int (fun _ _ => rfl)) (pe_lst pa_nil) rfl)
            (pss_one (ps_expr (pe_bm PySem.F.plainAttrs_list PySem.F.slot_list_append PySem.F.type_list_append mt_append (pe_dget hu (peF K rfl (pv 0) rfl) (pe_ix (ixT K rfl) (pv 4) pe_int (fun _ _ => rfl)) (fun _ _ => rfl)) (pa_cons (pe_ix (ixT K rfl) (pv 4) pe_int (fun _ _ => rfl)) pa_nil))))))))))))), ?_⟩
    obtain ⟨xs, hsq⟩ := hR.sq
    refine ⟨_, rfl, _, _, _, _, true, rfl, .ty "list", tyL hsq, kit_ty (by decide +kernel), true, rfl, ifF rfl ?_⟩
    refine ⟨by show 0 ≤ sizeLine; decide, fun l hl => ?_⟩
    have e0 : Ex H (upd H l (.lst [])) := Ex.new hl
    refine ⟨_, rfl, a, xs, rfl, e0.l hsq, ?_⟩
    refine for_enumR hR (fun i σ H' => (∃ z3 z4, σ = [some (.ref x), some (.ref a), some (.ref l), z3, z4]) ∧ Ex H H' ∧ H' l = some (.lst ((nms (rs.take i)).map V.str)))
      ⟨⟨_, _, rfl⟩, e0, upd_same⟩ (fun i σ H' p => p.2.1) (fun i Tt t r cv σ H' hi p hT0 hT hc => ?_) (fun σ H1 p => ?_)
    · obtain ⟨⟨z3, z4, rfl⟩, e1, h1⟩ := p
      have e2 : Ex H' (upd H' Tt (.tup [.int (i : Nat), .ref t])) := Ex.new hT0
      obtain ⟨ha, hb, hc2, hd⟩ := hw.at hi
      refine ⟨Tt, _, rfl, SqT.of upd_same, rfl, _, _, rfl, _, _, rfl, rfl, ?_⟩
      refine ⟨_, rfl, _, rfl, t, l, r, cv, nms (rs.take i), rfl, e2.t hT, K74.CapR.keep e2 hc, e2.l (K74.SqL.of' h1), hw.ok r (List.mem_of_getElem? hi), hb, hc2, fun H2 e3 => ⟨_, rfl, ifF rfl ?_⟩⟩
      have h2 := (e2.trans e3) _ _ h1
      refine ⟨_, rfl, .inl ⟨rfl, _, K74.SqL.of' h2⟩, _, rfl, t, _, _, _, rfl, rfl, (e2.trans e3).t hT, rfl, _, _, _, rfl, rfl, h2, ?_, ⟨_, _, rfl⟩, ((e1.trans e2).trans e3).mut hl, ?_⟩
      · rw [List.length_map, List.length_map, List.length_take, sizeLine_eq]
        omega
      · rw [upd_same, nms_take hi, List.map_append]
        rfl
    · obtain ⟨⟨z3, z4, rfl⟩, e1, h1⟩ := p
      clear h1
      obtain ⟨tr, hs, hrs, hTr⟩ := hR
      refine ⟨_, rfl, a, _, rfl, .inl (e1.l hs), fun ln hln => ?_⟩
      have hx1 := e1 _ _ hx
      have nxl : x ≠ ln := fun e => by
        rw [← e, hx1] at hln
        cases hln
      refine ⟨_, rfl, x, _, dx, _, rfl, by rw [upd_ne nxl]; exact hx1, T.c_Tree, T.n_Tree_lines, (by show 0 < 1000; decide), ?_⟩
      -- the dict by name
      let H2 : Hp := upd (upd H1 ln (.lst (tr.map (·.1)))) x (.ins (He.ga K "Tree") dx [("lines", .ref ln)])
      have hx2 : H2 x = some (.ins (He.ga K "Tree") dx [("lines", .ref ln)]) := upd_same
      have k2 : Keep [x] H H2 := ((Keep.of (e1.trans (Ex.new hln))).mono (L := []) (fun _ h => by cases h)).trans (Keep.upd _)
      have hln2 : H2 ln = some (.lst (tr.map (·.1))) := by
        show upd _ x _ ln = _
        rw [upd_ne (Ne.symm nxl), upd_same]
      have hs2 : SqL K H2 a (tr.map (·.1)) := but_l k2 hx hs
      have hz2 : tr.length ≤ 10000 := by
        rw [hrs, List.length_map] at hz
        omega
      refine ⟨_, rfl, a, rfl, ⟨_, hs2⟩, fun bn hbn => ?_⟩
      refine dc_b tr (·.1) (fun p => some (Sum.inr p.2.nm, p.1)) hbn hs2 hz2 (fun i b H' hb e Q q => ?_) (fun H3 e3 h3 => ?_)
      · obtain ⟨t, cv, h3, hT, _⟩ := (but_row k2 hx (hTr b (List.mem_of_getElem? hb))).keep e.keepT
        exact ⟨rfl, _, rfl, t, _, _, _, h3, rfl, hT, rfl, _, rfl, q _ (Ex.refl _)⟩
      rw [filterMap_some] at h3
      have hx3 := e3 _ _ hx2
      refine ⟨_, rfl, x, _, dx, _, rfl, hx3, T.c_Tree, T.n_Tree_by_name, (by show 1 < 1000; decide), ?_⟩
      -- the dict of children
      let H4 : Hp := upd H3 x (.ins (He.ga K "Tree") dx [("lines", .ref ln), ("by_name", .ref bn)])
      have hx4 : H4 x = some (.ins (He.ga K "Tree") dx [("lines", .ref ln), ("by_name", .ref bn)]) := upd_same
      have k4 : Keep [x] H H4 := (k2.trans ((Keep.of e3).mono (L := []) (fun _ h => by cases h))).trans (Keep.upd _)
      intro bl hbl
      refine ⟨by show 0 ≤ sizeLine; decide, fun ka0 hka => ?_⟩
      have nkb : bl ≠ ka0 := fun e => by
        rw [← e, upd_same] at hka
        cases hka
      have hka4 : H4 ka0 = none := by
        have := hka
        rw [upd_ne (Ne.symm nkb)] at this
        exact this
      refine ⟨by rw [upd_ne nkb, upd_same], [(Sum.inr "", .ref ka0)], rfl, (by show 1 ≤ 15; decide), ?_⟩
      have nxb : x ≠ bl := fun e => by
        have z : H4 bl = none := hbl
        rw [← e, hx4] at z
        cases z
      have nxk : x ≠ ka0 := fun e => by
        rw [← e, hx4] at hka4
        cases hka4
      let H5 : Hp := upd (upd (upd H4 bl (.dK [])) ka0 (.lst [])) bl (.dK [(Sum.inr "", .ref ka0)])
      have e5 : Ex H4 H5 := ((Ex.new hbl).trans (Ex.new hka)).mut hbl
      have hx5 : H5 x = some (.ins (He.ga K "Tree") dx [("lines", .ref ln), ("by_name", .ref bn)]) := e5 _ _ hx4
      refine ⟨_, rfl, x, _, dx, _, rfl, hx5, T.c_Tree, T.n_Tree_below, (by show 2 < 1000; decide), ?_⟩
      let H6 : Hp := upd H5 x (.ins (He.ga K "Tree") dx [("lines", .ref ln), ("by_name", .ref bn), ("below", .ref bl)])
      have hx6 : H6 x = some (.ins (He.ga K "Tree") dx [("lines", .ref ln), ("by_name", .ref bn), ("below", .ref bl)]) := upd_same
      have k46 : Keep [x] H4 H6 := ((Keep.of e5).mono (L := []) (fun _ h => by cases h)).trans (Keep.upd _)
      have k6 : Keep [x] H H6 := k4.trans k46
      have hbl4 : H4 bl = none := hbl
      have hbl6 : H6 bl = some (.dK [(Sum.inr "", .ref ka0)]) := by
        show upd H5 x _ bl = _
        rw [upd_ne (Ne.symm nxb)]
        exact upd_same
      have hka6 : H6 ka0 = some (.lst []) := by
        show upd H5 x _ ka0 = _
        rw [upd_ne (Ne.symm nxk)]
        show upd _ bl _ ka0 = _
        rw [upd_ne (Ne.symm nkb), upd_same]
      have b0 : BelI H6 H6 bl ka0 (rs.take 0) := by
        refine ⟨fun _ _ h _ => h, _, hbl6, by simp, fun n hn => ?_, fun n hn => ?_, fun n m ka hn hm => ?_⟩
        · rw [valV_neg (fun z => hn (.inl (Sum.inr.inj z).symm))]
          rfl
        · rcases hn with rfl | hn
          · exact ⟨ka0, valV_pos rfl, hka6, .inl rfl⟩
          · cases hn
        · have one : ∀ z : Str, valV [((Sum.inr "" : Key), V.ref ka0)] (.inr z) = some (.ref ka) → z = "" := fun z hz => by
            by_cases e : ("" : Str) = z
            · exact e.symm
            · rw [valV_neg (fun q => e (Sum.inr.inj q))] at hz
              cases hz
          rw [one n hn, one m hm]
      -- what stands still of the old
      have stay : ∀ H', Keep [bl, ka0] H6 H' → Keep [x] H H' := fun H' kk b o hb hn => by
        refine kk b o (k6 b o hb hn) fun z => ?_
        rcases List.mem_cons.mp z with e | e
        · have := k4 b o hb hn
          rw [e, hbl4] at this
          cases this
        · rw [List.mem_singleton.mp e] at hb hn
          have := k4 ka0 o hb hn
          rw [hka4] at this
          cases this
      refine ⟨_, rfl, a, rfl, ⟨_, but_l k6 hx hs⟩, ?_⟩
      refine for_list (K := K) (a := a) (xs := tr.map fun q : V × RowD => q.1) (fun i σ H' => (∃ z3 z4, σ = [some (.ref x), some (.ref a), some (.ref l), z3, z4]) ∧ BelI H6 H' bl ka0 (rs.take i)) ⟨⟨_, _, rfl⟩, b0⟩ (fun i σ H' _ p => but_l (xs := tr.map fun q : V × RowD => q.1) (stay H' p.2.1) hx hs) (fun i y σ H' hy p => ?_) (fun σ H' p => ?_)
      · obtain ⟨⟨z3, z4, rfl⟩, p⟩ := p
        rw [List.getElem?_map] at hy
        obtain ⟨b, hb, rfl⟩ := Option.map_eq_some_iff.mp hy
        have hi : rs[i]? = some b.2 := by
          rw [hrs, List.getElem?_map, hb]
          rfl
        obtain ⟨t, cv, h3b, hT, hc⟩ := but_row (stay H' p.1) hx (hTr b (List.mem_of_getElem? hb))
        have hxb : ∀ H', Keep [bl, ka0] H6 H' → H' x = some (.ins (He.ga K "Tree") dx [("lines", .ref ln), ("by_name", .ref bn), ("below", .ref bl)]) := fun H' kk => kk _ _ hx6 (by simp [nxb, nxk])
        refine ⟨by show 0 ≤ sizeLine; decide, fun q hq => ?_⟩
        obtain ⟨blk, kp, q1, q2, q3, q4, q5, q6, q7⟩ := bel_step hw hi p hq
        have eq' : Ex H' (upd H' q (.lst [])) := Ex.new hq
        refine ⟨_, rfl, x, _, dx, _, _, rfl, eq' _ _ (hxb _ p.1), T.c_Tree, T.n_Tree_below, rfl, _, rfl, t, _, _, _, h3b, rfl, eq'.t hT, rfl, bl, _, rfl, DPut.k (k := Sum.inr b.2.nm) (eq' _ _ q1) (by rw [sizeLine_eq]; omega), ?_⟩
        have nxq : x ≠ q := fun e => by
          have := hxb _ p.1
          rw [e, hq] at this
          cases this
        have hx8 : (upd (upd H' q (.lst [])) bl (.dK (putK blk (.inr b.2.nm) (.ref q)))) x = some (.ins (He.ga K "Tree") dx [("lines", .ref ln), ("by_name", .ref bn), ("below", .ref bl)]) := by
          rw [upd_ne nxb, upd_ne nxq]
          exact hxb _ p.1
        have hT8 : SqT K (upd (upd H' q (.lst [])) bl (.dK (putK blk (.inr b.2.nm) (.ref q)))) t [.str b.2.nm, .str b.2.par, .int b.2.wt, cv] := by
          rcases eq'.t hT with (z | ⟨o, z⟩) | z
          · exact .inl (.inl (by rw [upd_ne (fun e => by rw [e] at z; rw [eq' _ _ q1] at z; cases z)]; exact z))
          · exact .inl (.inr ⟨o, by rw [upd_ne (fun e => by rw [e] at z; rw [eq' _ _ q1] at z; cases z)]; exact z⟩)
          · exact .inr z
        refine ⟨_, rfl, x, _, dx, _, _, rfl, hx8, T.c_Tree, T.n_Tree_below, rfl, _, rfl, t, _, _, _, h3b, rfl, hT8, rfl, bl, _, rfl, .inl ⟨_, Sum.inr b.2.par, .inl upd_same, rfl, q5.symm⟩, .inl ⟨rfl, _, K74.SqL.of' q6⟩, _, rfl, t, _, _, _, h3b, rfl, hT8, rfl, kp, _, _, rfl, rfl, q6, ?_, ⟨_, _, rfl⟩, q7⟩
        have := kids_len (rs.take i) b.2.par
        rw [List.length_take] at this
        rw [List.length_map, sizeLine_eq]
        omega
      · obtain ⟨⟨z3, z4, rfl⟩, p⟩ := p
        have elen : (tr.map (·.1)).length = rs.length := by rw [hrs, List.length_map, List.length_map]
        rw [elen, take_len] at p
        obtain ⟨pk, blk, b1, b2, b3, b4, b5⟩ := p
        have kx : Keep [x] H H' := stay H' pk
        have in6 : ∀ b o, H4 b = some o → b ≠ x → H' b = some o := fun b o hb hn => by
          refine pk b o (k46 b o hb (by simpa using hn)) fun z => ?_
          rcases List.mem_cons.mp z with e | e
          · rw [e, hbl4] at hb
            cases hb
          · rw [List.mem_singleton.mp e, hka4] at hb
            cases hb
        have hln4 : H4 ln = some (.lst (tr.map (·.1))) := by
          show upd H3 x _ ln = _
          rw [upd_ne (Ne.symm nxl)]
          exact e3 _ _ hln2
        have nxn : bn ≠ x := fun e => by
          rw [e] at h3
          rw [hx3] at h3
          cases h3
        have hbn4 : H4 bn = some (.dK (mergeK [] (tr.map fun p => ((Sum.inr p.2.nm : Key), p.1)))) := by
          show upd H3 x _ bn = _
          rw [upd_ne nxn]
          exact h3
        have nd := hw.nd
        have look : ∀ (l : List (V × RowD)), (l.map fun p => p.2.nm).Nodup → mergeK [] (l.map fun p => ((Sum.inr p.2.nm : Key), p.1)) = l.map fun p => ((Sum.inr p.2.nm : Key), p.1) := by
          intro l hnd
          have go : ∀ (l acc : List (V × RowD)), ((acc ++ l).map fun p => p.2.nm).Nodup → mergeK (acc.map fun p => ((Sum.inr p.2.nm : Key), p.1)) (l.map fun p => ((Sum.inr p.2.nm : Key), p.1)) = (acc ++ l).map fun p => ((Sum.inr p.2.nm : Key), p.1) := by
            intro l
            induction l with
            | nil => intro acc _; simp [mergeK]
            | cons b l ih =>
              intro acc h
              have hno : valV (acc.map fun p => ((Sum.inr p.2.nm : Key), p.1)) (Sum.inr b.2.nm) = none := by
                have : ∀ p, p ∈ acc → p.2.nm ≠ b.2.nm := fun p hp e => by
                  rw [List.map_append, List.nodup_append] at h
                  exact h.2.2 _ (List.mem_map.mpr ⟨p, hp, rfl⟩) _ (List.mem_map.mpr ⟨b, List.mem_cons_self, rfl⟩) e
                clear h ih
                induction acc with
                | nil => rfl
                | cons p acc ih2 =>
                  rw [List.map_cons, valV_neg (fun e => this p List.mem_cons_self (Sum.inr.inj e))]
                  exact ih2 fun p hp => this p (List.mem_cons_of_mem _ hp)
              show mergeK (putK _ (Sum.inr b.2.nm) b.1) (l.map _) = _
              rw [putK_new _ hno]
              have := ih (acc ++ [b]) (by simpa [List.append_assoc] using h)
              rw [List.map_append] at this
              simpa [List.append_assoc] using this
          have := go l [] (by simpa using hnd)
          simpa using this
        have ndt : (tr.map fun p => p.2.nm).Nodup := by
          rw [hrs] at nd
          unfold nms at nd
          rw [List.map_map] at nd
          exact nd
        rw [look tr ndt] at hbn4
        refine k H' (fun b o hn hb => kx b o hb (by simpa using hn)) ⟨dx, ln, bn, bl, _, blk, pk _ _ hx6 (by simp [nxb, nxk]), ⟨tr, K74.SqL.of' (in6 _ _ hln4 (Ne.symm nxl)), hrs, fun p hp => but_row kx hx (hTr p hp)⟩, .inl (in6 _ _ hbn4 nxn), fun r hr => ?_, fun n hn => ?_, .inl b1, fun n hn => ?_⟩
        · rw [hrs] at hr
          obtain ⟨p, hp, rfl⟩ := List.mem_map.mp hr
          refine ⟨p.1, ?_, but_row kx hx (hTr p hp)⟩
          exact val_tr ndt hp
        · refine val_trN fun p hp e => hn ?_
          rw [hrs]
          unfold nms
          rw [List.map_map]
          exact List.mem_map.mpr ⟨p, hp, e⟩
        · obtain ⟨ka, a1, a2, _⟩ := b4 n hn
          exact ⟨ka, a1, K74.SqL.of' a2⟩
end
end K74
set_option Elab.async false
set_option linter.all false
set_option maxRecDepth 100000
set_option maxHeartbeats 4000000
/-! What stands below a name: lists without doubles, sums. -/
namespace K74
open PySem PySem.Spec PyProof.Rows L2
theorem perm_sum {xs ys : List Int} (h : xs.Perm ys) : xs.sum = ys.sum := by
  induction h with
  | nil => rfl
  | cons x _ ih => simp only [List.sum_cons, ih]
  | swap x y l => simp only [List.sum_cons]; omega
  | trans _ _ a b => exact a.trans b
theorem sum_filter0 {α : Type} (S : α → Int) (p q : α → Bool) (xs : List α) (h : ∀ x, x ∈ xs → p x = false → S x = 0) : (((xs.filter p).filter q).map S).sum = ((xs.filter q).map S).sum := by
  induction xs with
  | nil => rfl
  | cons x xs ih =>
    have ih := ih fun y hy => h y (List.mem_cons_of_mem _ hy)
    have hx := h x List.mem_cons_self
    cases hp : p x with
    | true =>
      rw [List.filter_cons_of_pos hp]
      cases hq : q x with
      | true => simp only [List.filter_cons_of_pos hq, List.map_cons, List.sum_cons, ih]
      | false =>
        have : ¬ q x = true := by rw [hq]; decide
        rw [List.filter_cons_of_neg this, List.filter_cons_of_neg this, ih]
    | false =>
      rw [List.filter_cons_of_neg (by rw [hp]; decide)]
      cases hq : q x with
      | true => simp only [List.filter_cons_of_pos hq, List.map_cons, List.sum_cons, ih, hx hp]; omega
      | false =>
        have : ¬ q x = true := by rw [hq]; decide
        rw [List.filter_cons_of_neg this, ih]
/-- ys: x and what stands below it -/
def ABq (rs : List RowD) (x : Str) (ys : List Str) : Prop := ys.Nodup ∧ ∀ y, y ∈ ys ↔ y = x ∨ (y ∈ nms rs ∧ InB ("" : Str) (RR rs) x y)
theorem ABq.below {rs : List RowD} (w : WfD rs) {x : Str} {ys : List Str} (h : ABq rs x ys) (y : Str) : y ∈ ys ↔ y ∈ belowR x (RR rs) := by
  rw [h.2, below_mem w.wf, RR_names]
theorem ABq.len {rs : List RowD} (w : WfD rs) {x : Str} {ys : List Str} (h : ABq rs x ys) : ys.length ≤ 9 := by
  have := nodup_le h.1 (ys := x :: nms rs) fun y hy => ((h.2 y).mp hy).elim (fun e => by rw [e]; exact List.mem_cons_self) fun z => List.mem_cons_of_mem _ z.1
  have h2 := w.few
  rw [List.length_cons, List.length_map] at this
  omega
def ABi (rs : List RowD) (x : Str) (cs ys : List Str) : Prop := ys.Nodup ∧ ∀ y, y ∈ ys ↔ y = x ∨ ∃ c, c ∈ cs ∧ c ∈ pathR (RR rs) y
theorem mem_kidsR {rs : List RowD} {c n : Str} : c ∈ kids (prs rs) n ↔ (c, n) ∈ RR rs := by
  rw [mem_kids, RR, List.mem_reverse]
theorem WfD.name_ne {rs : List RowD} (w : WfD rs) {c : Str} (h : c ∈ nms rs) : c ≠ "" := fun e => root_not w.wf (e ▸ RR_names.mpr h)
theorem path_in {rs : List RowD} {c y : Str} (h : c ∈ pathR (RR rs) y) : y ∈ nms rs := by
  apply Classical.byContradiction
  intro q
  rw [pathR_none (fun z => q (RR_names.mp z))] at h
  cases h
theorem kid_name {rs : List RowD} {c n : Str} (h : c ∈ kids (prs rs) n) : c ∈ nms rs := by
  obtain ⟨r, h1, h2, _⟩ := mem_RR.mp (mem_kidsR.mp h)
  exact List.mem_map.mpr ⟨r, h1, h2⟩
theorem abi_nil (rs : List RowD) (x : Str) : ABi rs x [] [x] := ⟨by simp, fun y => by simp⟩
theorem abi_step {rs : List RowD} (w : WfD rs) {x c : Str} {cs ys zs : List Str} (h : ABi rs x cs ys) (hz : ABq rs c zs) (hc : c ∈ kids (prs rs) x) (hcs : ∀ d, d ∈ cs → d ∈ kids (prs rs) x) (hn : c ∉ cs) : ABi rs x (cs ++ [c]) (ys ++ zs) := by
  have hcn := kid_name hc
  have key : ∀ y, y ∈ zs ↔ c ∈ pathR (RR rs) y := fun y => by
    rw [hz.2]
    constructor
    · rintro (rfl | ⟨_, z | z⟩)
      · exact path_self (RR_names.mpr hcn)
      · exact absurd z (w.name_ne hcn)
      · exact z
    · intro z
      exact .inr ⟨path_in z, .inr z⟩
  refine ⟨List.nodup_append.mpr ⟨h.1, hz.1, fun a ha b hb e => ?_⟩, fun y => ?_⟩
  · subst e
    rw [key] at hb
    rcases (h.2 a).mp ha with e | ⟨d, hd, hp⟩
    · subst e
      obtain ⟨l, e⟩ := path_cut w.wf _ _ hb
      rw [path_step w.wf (mem_kidsR.mp hc)] at e
      have := congrArg List.length e
      simp only [List.length_append, List.length_cons, List.length_nil] at this
      omega
    · have := kids_apart w.wf (mem_kidsR.mp hc) (mem_kidsR.mp (hcs d hd)) hb hp
      exact hn (this ▸ hd)
  · rw [List.mem_append, h.2, key]
    constructor
    · rintro ((e | ⟨d, hd, hp⟩) | z)
      · exact .inl e
      · exact .inr ⟨d, List.mem_append_left _ hd, hp⟩
      · exact .inr ⟨c, by simp, z⟩
    · rintro (e | ⟨d, hd, hp⟩)
      · exact .inl (.inl e)
      · rcases List.mem_append.mp hd with z | z
        · exact .inl (.inr ⟨d, z, hp⟩)
        · rw [List.mem_singleton.mp z] at hp
          exact .inr hp
theorem abi_end {rs : List RowD} (w : WfD rs) {x : Str} {ys : List Str} (hx : x = "" ∨ x ∈ nms rs) (h : ABi rs x (kids (prs rs) x) ys) : ABq rs x ys := by
  refine ⟨h.1, fun y => ?_⟩
  rw [h.2]
  constructor
  · rintro (e | ⟨c, hc, hp⟩)
    · exact .inl e
    · refine .inr ⟨path_in hp, ?_⟩
      rcases hx with e | e
      · exact .inl e
      · obtain ⟨l, e2⟩ := path_cut w.wf _ _ hp
        rw [path_step w.wf (mem_kidsR.mp hc)] at e2
        right
        rw [e2]
        exact List.mem_append_left _ (List.mem_append_left _ (path_self (RR_names.mpr e)))
  · rintro (e | ⟨h1, h2⟩)
    · exact .inl e
    · by_cases e : y = x
      · exact .inl e
      · obtain ⟨c, hc, hp⟩ := below_kid w.wf (RR_names.mpr h1) h2 e
        exact .inr ⟨c, mem_kidsR.mpr hc, hp⟩
theorem kids_nodup {rs : List RowD} (w : WfD rs) (x : Str) : (kids (prs rs) x).Nodup := by
  have h : (prs rs).map (·.1) = nms rs := by rw [List.map_map]; rfl
  have : (kids (prs rs) x).Sublist ((prs rs).map (·.1)) := List.Sublist.map _ (List.filter_sublist)
  rw [h] at this
  exact this.nodup w.nd
/-- deeper names have longer paths -/
theorem kid_path {rs : List RowD} (w : WfD rs) {c x : Str} (h : c ∈ kids (prs rs) x) : (pathR (RR rs) c).length = (pathR (RR rs) x).length + 1 := by
  rw [path_step w.wf (mem_kidsR.mp h)]
  simp
abbrev lvs (rs : List RowD) : List Str := leavesOf (prs rs)
theorem prs_fst (rs : List RowD) : (prs rs).map (·.1) = nms rs := by rw [List.map_map]; rfl
theorem lvs_eq (rs : List RowD) : lvs rs = (nms rs).filter fun x => decide (x ∉ (prs rs).map (·.2)) := by
  unfold lvs leavesOf
  rw [prs_fst]
theorem mem_lvs {rs : List RowD} {x : Str} : x ∈ lvs rs ↔ x ∈ nms rs ∧ kids (prs rs) x = [] := by
  rw [lvs_eq, List.mem_filter, kids_nil]
  simp
theorem lvs_nodup {rs : List RowD} (w : WfD rs) : (lvs rs).Nodup := by
  rw [lvs_eq]
  exact w.nd.filter _
theorem lvs_len (rs : List RowD) : (lvs rs).length ≤ rs.length := by
  rw [lvs_eq]
  exact Nat.le_trans (List.length_filter_le _ _) (by rw [List.length_map]; exact Nat.le_refl _)
/-- the machine's sum and the law's -/
theorem charged_eq {rs : List RowD} (w : WfD rs) {x : Str} {ys : List Str} {S : Str → Int} (hx : x = "" ∨ x ∈ nms rs) (h : ABq rs x ys) (hS : ∀ n, n ∈ nms rs → n ∉ lvs rs → S n = 0) :
    ((ys.filter fun y => decide (y ≠ ("" : Str))).map S).sum = chg rs (lvs rs) S x := by
  unfold chg
  have e2 := lvs_eq rs
  rw [e2, sum_filter0 S _ _ (nms rs) (fun y hy hp => hS y hy fun z => by
    rw [lvs_eq, List.mem_filter] at z
    rw [z.2] at hp
    cases hp)]
  refine perm_sum (List.Perm.map S ((List.perm_ext_iff_of_nodup (h.1.filter _) (w.nd.filter _)).mpr fun y => ?_))
  rw [List.mem_filter, List.mem_filter]
  simp only [decide_eq_true_eq]
  rw [h.below w]
  constructor
  · rintro ⟨h1, h2⟩
    refine ⟨?_, h1⟩
    rcases (below_mem w.wf x y).mp h1 with e | ⟨e, _⟩
    · subst e
      exact hx.resolve_left h2
    · exact RR_names.mp e
  · rintro ⟨h1, h2⟩
    exact ⟨h2, w.name_ne h1⟩
end K74
set_option Elab.async false
set_option linter.all false
set_option maxRecDepth 100000
set_option maxHeartbeats 4000000
namespace K74
open PySem PySem.Spec PyProof.Rows L2
section
variable {P : Program} {w : World} {K : PySem.W.Frag} {mg : Str → Option Value} {base : Heap}
abbrev N_Tree_contains : List Str := ["self", "name"]
abbrev P_Tree_contains : List Str := ["self", "name"]
theorem sc_Tree_contains : FnScope N_Tree_contains P_Tree_contains (defScope s_Tree_contains) := C8.fnScope_by (by decide +kernel)
theorem b_Tree_contains {K : PySem.W.Frag} {fd : FuncData} (F : FunD K d_Tree_contains.name d_Tree_contains.qual d_Tree_contains.params d_Tree_contains.body d_Tree_contains.scope (d_Tree_contains.dvs K) (d_Tree_contains.kws K) (He.fAd K d_Tree_contains.at_) fd) : L2.Binds K fd P_Tree_contains [] :=
  FunD.bindsN F fun _ _ _ _ _ _ us hl => match us, hl with | [_, _], _ => rfl
abbrev N_Tree_rows : List Str := ["self"]
abbrev P_Tree_rows : List Str := ["self"]
theorem sc_Tree_rows : FnScope N_Tree_rows P_Tree_rows (defScope s_Tree_rows) := C8.fnScope_by (by decide +kernel)
theorem b_Tree_rows {K : PySem.W.Frag} {fd : FuncData} (F : FunD K d_Tree_rows.name d_Tree_rows.qual d_Tree_rows.params d_Tree_rows.body d_Tree_rows.scope (d_Tree_rows.dvs K) (d_Tree_rows.kws K) (He.fAd K d_Tree_rows.at_) fd) : L2.Binds K fd P_Tree_rows [] :=
  FunD.bindsN F fun _ _ _ _ _ _ us hl => match us, hl with | [_], _ => rfl
abbrev N_Tree_leaves : List Str := ["self", "row"]
abbrev P_Tree_leaves : List Str := ["self"]
theorem sc_Tree_leaves : FnScope N_Tree_leaves P_Tree_leaves (defScope s_Tree_leaves) := C8.fnScope_by (by decide +kernel)
theorem b_Tree_leaves {K : PySem.W.Frag} {fd : FuncData} (F : FunD K d_Tree_leaves.name d_Tree_leaves.qual d_Tree_leaves.params d_Tree_leaves.body d_Tree_leaves.scope (d_Tree_leaves.dvs K) (d_Tree_leaves.kws K) (He.fAd K d_Tree_leaves.at_) fd) : L2.Binds K fd P_Tree_leaves [] :=
  FunD.bindsN F fun _ _ _ _ _ _ us hl => match us, hl with | [_], _ => rfl
abbrev N_Tree_row_of : List Str := ["self", "name"]
abbrev P_Tree_row_of : List Str := ["self", "name"]
theorem sc_Tree_row_of : FnScope N_Tree_row_of P_Tree_row_of (defScope s_Tree_row_of) := C8.fnScope_by (by decide +kernel)
theorem b_Tree_row_of {K : PySem.W.Frag} {fd : FuncData} (F : FunD K d_Tree_row_of.name d_Tree_row_of.qual d_Tree_row_of.params d_Tree_row_of.body d_Tree_row_of.scope (d_Tree_row_of.dvs K) (d_Tree_row_of.kws K) (He.fAd K d_Tree_row_of.at_) fd) : L2.Binds K fd P_Tree_row_of [] :=
  FunD.bindsN F fun _ _ _ _ _ _ us hl => match us, hl with | [_, _], _ => rfl
abbrev N_Tree_children : List Str := ["self", "name"]
abbrev P_Tree_children : List Str := ["self", "name"]
theorem sc_Tree_children : FnScope N_Tree_children P_Tree_children (defScope s_Tree_children) := C8.fnScope_by (by decide +kernel)
theorem b_Tree_children {K : PySem.W.Frag} {fd : FuncData} (F : FunD K d_Tree_children.name d_Tree_children.qual d_Tree_children.params d_Tree_children.body d_Tree_children.scope (d_Tree_children.dvs K) (d_Tree_children.kws K) (He.fAd K d_Tree_children.at_) fd) : L2.Binds K fd P_Tree_children [] :=
  FunD.bindsN F fun _ _ _ _ _ _ us hl => match us, hl with | [_, _], _ => rfl
abbrev N_Tree_path : List Str := ["self", "name", "found"]
abbrev P_Tree_path : List Str := ["self", "name"]
theorem sc_Tree_path : FnScope N_Tree_path P_Tree_path (defScope s_Tree_path) := C8.fnScope_by (by decide +kernel)
theorem b_Tree_path {K : PySem.W.Frag} {fd : FuncData} (F : FunD K d_Tree_path.name d_Tree_path.qual d_Tree_path.params d_Tree_path.body d_Tree_path.scope (d_Tree_path.dvs K) (d_Tree_path.kws K) (He.fAd K d_Tree_path.at_) fd) : L2.Binds K fd P_Tree_path [] :=
  FunD.bindsN F fun _ _ _ _ _ _ us hl => match us, hl with | [_, _], _ => rfl
abbrev N_check_tree : List Str := ["tree"]
abbrev P_check_tree : List Str := ["tree"]
theorem sc_check_tree : FnScope N_check_tree P_check_tree (defScope s_check_tree) := C8.fnScope_by (by decide +kernel)
theorem b_check_tree {K : PySem.W.Frag} {fd : FuncData} (F : FunD K d_check_tree.name d_check_tree.qual d_check_tree.params d_check_tree.body d_check_tree.scope (d_check_tree.dvs K) (d_check_tree.kws K) (He.fAd K d_check_tree.at_) fd) : L2.Binds K fd P_check_tree [] :=
  FunD.bindsN F fun _ _ _ _ _ _ us hl => match us, hl with | [_], _ => rfl
abbrev N_all_below : List Str := ["tree", "name", "found", "child"]
abbrev P_all_below : List Str := ["tree", "name"]
theorem sc_all_below : FnScope N_all_below P_all_below (defScope s_all_below) := C8.fnScope_by (by decide +kernel)
theorem b_all_below {K : PySem.W.Frag} {fd : FuncData} (F : FunD K d_all_below.name d_all_below.qual d_all_below.params d_all_below.body d_all_below.scope (d_all_below.dvs K) (d_all_below.kws K) (He.fAd K d_all_below.at_) fd) : L2.Binds K fd P_all_below [] :=
  FunD.bindsN F fun _ _ _ _ _ _ us hl => match us, hl with | [_, _], _ => rfl
abbrev N_check_leaf : List Str := ["tree", "leaf"]
abbrev P_check_leaf : List Str := ["tree", "leaf"]
theorem sc_check_leaf : FnScope N_check_leaf P_check_leaf (defScope s_check_leaf) := C8.fnScope_by (by decide +kernel)
theorem b_check_leaf {K : PySem.W.Frag} {fd : FuncData} (F : FunD K d_check_leaf.name d_check_leaf.qual d_check_leaf.params d_check_leaf.body d_check_leaf.scope (d_check_leaf.dvs K) (d_check_leaf.kws K) (He.fAd K d_check_leaf.at_) fd) : L2.Binds K fd P_check_leaf [] :=
  FunD.bindsN F fun _ _ _ _ _ _ us hl => match us, hl with | [_, _], _ => rfl
abbrev N_check_place : List Str := ["tree", "name"]
abbrev P_check_place : List Str := ["tree", "name"]
theorem sc_check_place : FnScope N_check_place P_check_place (defScope s_check_place) := C8.fnScope_by (by decide +kernel)
theorem b_check_place {K : PySem.W.Frag} {fd : FuncData} (F : FunD K d_check_place.name d_check_place.qual d_check_place.params d_check_place.body d_check_place.scope (d_check_place.dvs K) (d_check_place.kws K) (He.fAd K d_check_place.at_) fd) : L2.Binds K fd P_check_place [] :=
  FunD.bindsN F fun _ _ _ _ _ _ us hl => match us, hl with | [_, _], _ => rfl
abbrev N_check_limits : List Str := ["tree", "limits", "has_root", "name"]
abbrev P_check_limits : List Str := ["tree", "limits", "has_root"]
theorem sc_check_limits : FnScope N_check_limits P_check_limits (defScope s_check_limits) := C8.fnScope_by (by decide +kernel)
theorem b_check_limits {K : PySem.W.Frag} {fd : FuncData} (F : FunD K d_check_limits.name d_check_limits.qual d_check_limits.params d_check_limits.body d_check_limits.scope (d_check_limits.dvs K) (d_check_limits.kws K) (He.fAd K d_check_limits.at_) fd) : L2.Binds K fd P_check_limits [] :=
  FunD.bindsN F fun _ _ _ _ _ _ us hl => match us, hl with | [_, _, _], _ => rfl
abbrev N_check_pages : List Str := ["number"]
abbrev P_check_pages : List Str := ["number"]
theorem sc_check_pages : FnScope N_check_pages P_check_pages (defScope s_check_pages) := C8.fnScope_by (by decide +kernel)
theorem b_check_pages {K : PySem.W.Frag} {fd : FuncData} (F : FunD K d_check_pages.name d_check_pages.qual d_check_pages.params d_check_pages.body d_check_pages.scope (d_check_pages.dvs K) (d_check_pages.kws K) (He.fAd K d_check_pages.at_) fd) : L2.Binds K fd P_check_pages [] :=
  FunD.bindsN F fun _ _ _ _ _ _ us hl => match us, hl with | [_], _ => rfl
theorem dp_strs {H : Hp} (ys : List Str) : DpAll K H (ys.map V.str) (ys.map PyData.str) := by
  induction ys with
  | nil => exact .nil
  | cons y ys ih => exact .cons (.str y) ih
theorem shaped_strs {ys : List Str} (h : ∀ y, y ∈ ys → NameOk y) : SeqAt.shaped (.list (ys.map PyData.str)) = true := by
  have h1 : PyData.canLayAll0 (ys.map PyData.str) = true := by
    induction ys with
    | nil => rfl
    | cons y ys ih =>
      show (PyData.strOk y && PyData.canLayAll0 (ys.map PyData.str)) = true
      rw [(h y List.mem_cons_self).str, ih fun z hz => h z (List.mem_cons_of_mem _ hz)]
      rfl
  have h2 : PyData.depthAll (ys.map PyData.str) = 0 := by
    clear h h1
    induction ys with
    | nil => rfl
    | cons y ys ih =>
      show max 0 (PyData.depthAll (ys.map PyData.str)) = 0
      rw [ih]
      rfl
  unfold SeqAt.shaped
  show (PyData.canLayAll0 (ys.map PyData.str) && decide (PyData.depthAll (ys.map PyData.str) + 1 ≤ 64)) = true
  rw [h1, h2]
  rfl
theorem WfD.nameOk {rs : List RowD} (w : WfD rs) {x : Str} (h : x ∈ nms rs) : NameOk x := by
  obtain ⟨r, h1, rfl⟩ := List.mem_map.mp h
  exact (w.ok r h1).nm
theorem eqv_strs_nil (ys : List Str) : PyData.eqv (.list (ys.map PyData.str)) (.list []) = decide (ys = []) := by
  cases ys with
  | nil => rfl
  | cons y ys => rfl
def spHas (K : PySem.W.Frag) : Sp := fun vs H Q _ => ∃ (tr : Addr) (n : Str) (rs : List RowD), vs = [.ref tr, .str n] ∧ TreeAt K H tr rs ∧ Q (.bl (decide (n ∈ nms rs))) H
theorem ok_Tree_contains (T : Tx K mg) : Has P w K mg base CX0 1 d_Tree_contains P_Tree_contains (spHas K) := by
  refine has0 T _ at_d_Tree_contains sc_Tree_contains (fun fd F => b_Tree_contains F) (fun vs H Q E h => ?_) (fun cdv A outer s H vs Q E hr h => ?_)
  · obtain ⟨tr, n, rs, rfl, _⟩ := h
    rfl
  · obtain ⟨tr, n, rs, rfl, ⟨dx, ln, bn, bl, bnk, blk, h1, h2, h3, h4, h5, h6, h7⟩, k⟩ := h
    have hu := hu_of hr
    have nd := sc_Tree_contains.nd
    refine ⟨_, (pss_one (ps_ret (pe_and (pe_callB call_isi (by rfl) T.z_isinstance (by decide +kernel) (pa_cons (pv 1) (pa_cons (pe_bltn (v := .ty "str") (by rfl) T.z_str (by decide +kernel) rfl) pa_nil))) (pe_one (pe_cmp (pc_din hu (pv 1) (peF K rfl (pv 0) rfl)) rfl))))), ?_⟩
    refine ⟨_, rfl, _, _, _, _, true, rfl, .ty "str", .base (.str n), kit_ty (by decide +kernel), true, rfl, iteT ?_⟩
    refine ⟨_, rfl, _, rfl, tr, _, dx, _, _, rfl, h1, T.c_Tree, T.n_Tree_by_name, rfl, bn, _, rfl, .inl ⟨_, Sum.inr n, h3, rfl, rfl⟩, ?_⟩
    have e : (valV bnk (Sum.inr n)).isSome = decide (n ∈ nms rs) := by
      by_cases c : n ∈ nms rs
      · obtain ⟨r, hr1, hr2⟩ := List.mem_map.mp c
        subst hr2
        obtain ⟨v, hv, _⟩ := h4 r hr1
        rw [hv, decide_eq_true c]
        rfl
      · rw [h5 n c, decide_eq_false c]
        rfl
    rw [e]
    exact k
def spTRows (K : PySem.W.Frag) : Sp := fun vs H Q _ => ∃ (tr : Addr) (rs : List RowD), vs = [.ref tr] ∧ TreeAt K H tr rs ∧ ∀ p ys, H p = none → Reps (RowR K) H ys rs → Q (.ref p) (upd H p (.lst ys))
theorem ok_Tree_rows (T : Tx K mg) : Has P w K mg base CX0 1 d_Tree_rows P_Tree_rows (spTRows K) := by
  refine has0 T _ at_d_Tree_rows sc_Tree_rows (fun fd F => b_Tree_rows F) (fun vs H Q E h => ?_) (fun cdv A outer s H vs Q E hr h => ?_)
  · obtain ⟨tr, rs, rfl, _⟩ := h
    rfl
  · obtain ⟨tr, rs, rfl, ⟨dx, ln, bn, bl, bnk, blk, h1, h2, h3, h4, h5, h6, h7⟩, k⟩ := h
    have nd := sc_Tree_rows.nd
    refine ⟨_, (pss_one (ps_ret (pe_callTy call_list_of (by rfl) T.z_list (by decide +kernel) (pa_cons (peF K rfl (pv 0) rfl) pa_nil)))), ?_⟩
    obtain ⟨ys, hs, hr2⟩ := h2.get
    exact ⟨_, rfl, tr, _, dx, _, _, rfl, h1, T.c_Tree, T.n_Tree_lines, rfl, ln, ys, rfl, .inl hs, fun l hl => k l ys hl hr2⟩
def spTLeaves (K : PySem.W.Frag) : Sp := fun vs H Q _ => ∃ (tr : Addr) (rs : List RowD), vs = [.ref tr] ∧ TreeAt K H tr rs ∧ WfD rs ∧ ∀ p H', H p = none → Ex H H' → H' p = some (.lst ((lvs rs).map V.str)) → Q (.ref p) H'
theorem ok_Tree_leaves (T : Tx K mg) : Has P w K mg base CX0 1 d_Tree_leaves P_Tree_leaves (spTLeaves K) := by
  refine has0 T _ at_d_Tree_leaves sc_Tree_leaves (fun fd F => b_Tree_leaves F) (fun vs H Q E h => ?_) (fun cdv A outer s H vs Q E hr h => ?_)
  · obtain ⟨tr, rs, rfl, _⟩ := h
    rfl
  · obtain ⟨tr, rs, rfl, hT, hw, k⟩ := h
    have hz := hw.few
    have hT0 := hT
    obtain ⟨dx, ln, bn, bl, bnk, blk, h1, h2, h3, h4, h5, h6, h7⟩ := hT
    have hu := hu_of hr
    have nd := sc_Tree_leaves.nd
    refine ⟨_, (pss_one (ps_ret (pe_lc (own := [("row", 1)]) (g := gName 1) rfl nd (pi_list (peF K rfl (pv 0) rfl)) (blkOk_by (N := N_Tree_leaves) (sc := defScope s_Tree_leaves) (by decide +kernel)) (fun _ _ _ _ _ => pg_name (i := 1) nd rfl (Or.inl rfl)) (fun _ _ _ _ _ => (pts_one (pt_cmpR (opEqD K rfl hr.units) (pe_dget hu (peF K rfl (pv 0) rfl) (pe_ix (ixT K rfl) (pv 1) pe_int (fun _ _ => rfl)) (fun _ _ => rfl)) (pe_lst pa_nil) (nomark _)))) (fun _ _ _ _ _ => (pe_ix (ixT K rfl) (pv 1) pe_int (fun _ _ => rfl)))))), ?_⟩
    refine ⟨_, rfl, tr, _, dx, _, _, rfl, h1, T.c_Tree, T.n_Tree_lines, rfl, ln, rfl, h2.sq, fun D hD => ?_⟩
    refine lc_rows h2 hz (fun r => if decide (r.nm ∉ rs.map (·.par)) = true then some (V.str r.nm) else none) hD (fun i t r cv H' hb e hT hc Q q => ?_) (fun H3 e3 h3 => ?_)
    · obtain ⟨ka, a1, a2⟩ := h7 r.nm (.inr (List.mem_map.mpr ⟨r, List.mem_of_getElem? hb, rfl⟩))
      refine ⟨rfl, _, rfl, tr, _, dx, _, _, rfl, e _ _ h1, T.c_Tree, T.n_Tree_below, rfl, _, rfl, t, _, _, _, rfl, rfl, hT, rfl, bl, .ref ka, rfl, .inl ⟨_, Sum.inr r.nm, e.rd h6, rfl, a1.symm⟩, ?_⟩
      refine ⟨by show 0 ≤ sizeLine; decide, fun q2 hq2 => ?_⟩
      have e4 : Ex H' (upd H' q2 (.lst [])) := Ex.new hq2
      refine ⟨.list ((kids (prs rs) r.nm).map PyData.str), .list [], .lst (e4.l (e.l a2)) (dp_strs _), .lst (K74.SqL.of' upd_same) .nil, shaped_strs (fun y hy => hw.nameOk (kid_name hy)), rfl, ?_⟩
      rw [eqv_strs_nil]
      refine ⟨_, rfl, ?_⟩
      have ek : (kids (prs rs) r.nm = []) ↔ r.nm ∉ rs.map (·.par) := by
        rw [kids_nil]
        have : (prs rs).map (·.2) = rs.map (·.par) := by rw [List.map_map]; rfl
        rw [this]
      by_cases c : r.nm ∈ rs.map (·.par)
      · have qq := q _ e4
        rw [if_neg (by rw [decide_eq_false (fun z => z c)]; decide)] at qq
        exact ifF (decide_eq_false (fun z => ek.mp z c)) qq
      · have qq := q _ e4
        rw [if_pos (decide_eq_true c)] at qq
        exact ifT (decide_eq_true (ek.mpr c)) ⟨_, rfl, t, _, _, _, rfl, rfl, e4.t hT, rfl, qq⟩
    · refine k D H3 hD e3 ?_
      rw [h3, filterMap_if]
      show _ = some (HO.lst ((leavesOf (prs rs)).map V.str))
      rw [leaves_rows, List.map_map]
      rfl
def spRowOf (K : PySem.W.Frag) : Sp := fun vs H Q _ => ∃ (tr : Addr) (r : RowD) (rs : List RowD), vs = [.ref tr, .str r.nm] ∧ TreeAt K H tr rs ∧ r ∈ rs ∧ ∀ v, RowR K H v r → Q v H
theorem ok_Tree_row_of (T : Tx K mg) : Has P w K mg base CX0 2 d_Tree_row_of P_Tree_row_of (spRowOf K) := by
  have H_Tree_contains : Has P w K mg base CX0 1 d_Tree_contains P_Tree_contains (spHas K) := ok_Tree_contains T
  refine has0 T _ at_d_Tree_row_of sc_Tree_row_of (fun fd F => b_Tree_row_of F) (fun vs H Q E h => ?_) (fun cdv A outer s H vs Q E hr h => ?_)
  · obtain ⟨tr, r, rs, rfl, _⟩ := h
    rfl
  · obtain ⟨tr, r, rs, rfl, hT, hr1, k⟩ := h
    have hT0 := hT
    obtain ⟨dx, ln, bn, bl, bnk, blk, h1, h2, h3, h4, h5, h6, h7⟩ := hT
    have hu := hu_of hr
    have nd := sc_Tree_row_of.nd
    refine ⟨_, (pss_cons (ps_if (pt_cmpR (op_ownNotInD H_Tree_contains hr (by first | decide | omega) T.m_Tree_contains pass0) (pv 1) (pv 0) (by rfl)) (pss_one ps_never) pss_nil)
        (pss_one (ps_ret (pe_dget hu (peF K rfl (pv 0) rfl) (pv 1) (fun _ _ => rfl))))), ?_⟩
    obtain ⟨v, hv, hv2⟩ := h4 r hr1
    refine ⟨_, rfl, _, rfl, tr, dx, _, rfl, h1, tr, r.nm, rs, rfl, hT0, _, rfl, _, rfl, ifF (by rw [decide_eq_true (List.mem_map.mpr ⟨r, hr1, rfl⟩)]; rfl) ?_⟩
    exact ⟨_, rfl, tr, _, dx, _, _, rfl, h1, T.c_Tree, T.n_Tree_by_name, rfl, _, rfl, bn, v, rfl, .inl ⟨_, Sum.inr r.nm, h3, rfl, hv.symm⟩, k v hv2⟩
def spKids (K : PySem.W.Frag) : Sp := fun vs H Q _ => ∃ (tr : Addr) (n : Str) (rs : List RowD), vs = [.ref tr, .str n] ∧ TreeAt K H tr rs ∧ (n = "" ∨ n ∈ nms rs) ∧ ∀ p, H p = none → Q (.ref p) (upd H p (.lst ((kids (prs rs) n).map V.str)))
theorem ok_Tree_children (T : Tx K mg) : Has P w K mg base CX0 1 d_Tree_children P_Tree_children (spKids K) := by
  refine has0 T _ at_d_Tree_children sc_Tree_children (fun fd F => b_Tree_children F) (fun vs H Q E h => ?_) (fun cdv A outer s H vs Q E hr h => ?_)
  · obtain ⟨tr, n, rs, rfl, _⟩ := h
    rfl
  · obtain ⟨tr, n, rs, rfl, ⟨dx, ln, bn, bl, bnk, blk, h1, h2, h3, h4, h5, h6, h7⟩, hn, k⟩ := h
    have hu := hu_of hr
    have nd := sc_Tree_children.nd
    refine ⟨_, (pss_cons (ps_if (PW.pt (pw_or (pt_not (pt_val (pe_callB call_isi (by rfl) T.z_isinstance (by decide +kernel) (pa_cons (pv 1) (pa_cons (pe_bltn (v := .ty "str") (by rfl) T.z_str (by decide +kernel) rfl) pa_nil))))) (pw_or1 (pt_cmp (pc_dnotin hu (pv 1) (peF K rfl (pv 0) rfl)))))) (pss_one ps_never) pss_nil)
        (pss_one (ps_ret (pe_callTy call_list_of (by rfl) T.z_list (by decide +kernel) (pa_cons (pe_dget hu (peF K rfl (pv 0) rfl) (pv 1) (fun _ _ => rfl)) pa_nil))))), ?_⟩
    obtain ⟨ka, a1, a2⟩ := h7 n hn
    refine ⟨_, rfl, _, _, _, _, true, rfl, .ty "str", .base (.str n), kit_ty (by decide +kernel), true, rfl, ifF rfl ?_⟩
    refine ⟨_, rfl, _, rfl, tr, _, dx, _, _, rfl, h1, T.c_Tree, T.n_Tree_below, rfl, bl, _, rfl, .inl ⟨_, Sum.inr n, h6, rfl, rfl⟩, _, rfl, ifF (by rw [a1]; rfl) ?_⟩
    exact ⟨_, rfl, tr, _, dx, _, _, rfl, h1, T.c_Tree, T.n_Tree_below, rfl, _, rfl, bl, .ref ka, rfl, .inl ⟨_, Sum.inr n, h6, rfl, a1.symm⟩, ka, _, rfl, .inl a2, fun l hl => k l hl⟩
def spTPath (K : PySem.W.Frag) : Sp := fun vs H Q _ => ∃ (tr : Addr) (n : Str) (rs : List RowD), vs = [.ref tr, .str n] ∧ TreeAt K H tr rs ∧ WfD rs ∧ n ∈ nms rs ∧ ∀ p H', H p = none → Ex H H' → H' p = some (.lst ((pathR (RR rs) n).map V.str)) → Q (.ref p) H'
theorem ok_Tree_path (T : Tx K mg) : Has P w K mg base CX0 3 d_Tree_path P_Tree_path (spTPath K) := by
  have H_Tree_row_of : Has P w K mg base CX0 2 d_Tree_row_of P_Tree_row_of (spRowOf K) := ok_Tree_row_of T
  refine has0 T _ at_d_Tree_path sc_Tree_path (fun fd F => b_Tree_path F) (fun vs H Q E h => ?_) (fun cdv A outer s H vs Q E hr h => ?_)
  · obtain ⟨tr, n, rs, rfl, _⟩ := h
    rfl
  · obtain ⟨tr, n, rs, rfl, hT, hw, hn, k⟩ := h
    obtain ⟨r0, hr0, rfl⟩ := List.mem_map.mp hn
    have hT0 := hT
    obtain ⟨dx, ln, bn, bl, bnk, blk, h1, h2, h3, h4, h5, h6, h7⟩ := hT
    have hu := hu_of hr
    have nd := sc_Tree_path.nd
    refine ⟨_, (pss_cons (ps_set (i := 2) nd rfl (Or.inl rfl) (pe_lst (pa_cons (pe_ix (ixT K rfl) (pe_ml H_Tree_row_of hr (by first | decide | omega) T.c_Tree T.m_Tree_row_of pass0 (pv 0) (pa_cons (pv 1) pa_nil)) pe_int (fun _ _ => rfl)) pa_nil)))
        (pss_cons (ps_while PassesOwn.never (pt_cmpR op_ne (pe_ix (ixT K rfl) (pe_dget hu (peF K rfl (pv 0) rfl) (pe_ix (ixL K rfl) (pv 2) pe_int (fun _ _ => rfl)) (fun _ _ => rfl)) pe_int (fun _ _ => rfl)) pe_str (nomark _))
          (pss_one (ps_expr (pe_bm PySem.F.plainAttrs_list PySem.F.slot_list_insert PySem.F.type_list_insert mt_insert (pv 2) (pa_cons pe_int (pa_cons (pe_ix (ixT K rfl) (pe_dget hu (peF K rfl (pv 0) rfl) (pe_ix (ixL K rfl) (pv 2) pe_int (fun _ _ => rfl)) (fun _ _ => rfl)) pe_int (fun _ _ => rfl)) pa_nil))))))
        (pss_one (ps_ret (pv 2))))), ?_⟩
    refine ⟨_, rfl, tr, dx, _, rfl, h1, rfl, _, rfl, tr, r0, rs, rfl, hT0, hr0, fun v hv => ?_⟩
    obtain ⟨t, cv, rfl, ht, hc⟩ := hv
    refine ⟨t, _, _, _, rfl, rfl, ht, rfl, (by show 1 ≤ sizeLine; decide), fun l hl => ?_⟩
    have e0 : Ex H (upd H l (.lst [.str r0.nm])) := Ex.new hl
    refine ⟨fun m σ H' => ∃ (r : RowD) (ys : List Str), σ = [some (.ref tr), some (.str r0.nm), some (.ref l)] ∧ Ex H H' ∧ H' l = some (.lst ((r.nm :: ys).map V.str)) ∧ r ∈ rs ∧ pathR (RR rs) r0.nm = pathR (RR rs) r.nm ++ ys ∧ m = (pathR (RR rs) r.nm).length,
      ⟨_, r0, [], rfl, e0, upd_same, hr0, by simp, rfl⟩, ?_⟩
    rintro m σ H' ⟨r, ys, rfl, e1, hl1, hr1, hp, rfl⟩
    obtain ⟨v, hv, hv2⟩ := h4 r hr1
    obtain ⟨t2, cv2, rfl, ht2, hc2⟩ := hv2.keep e1.keepT
    have hlen : ys.length ≤ 8 := by
      have := hw.path_le r0.nm
      rw [hp, List.length_append] at this
      omega
    refine ⟨_, rfl, tr, _, dx, _, _, rfl, e1 _ _ h1, T.c_Tree, T.n_Tree_by_name, rfl, _, rfl, l, _, _, .str r.nm, rfl, rfl, K74.SqL.of' hl1, atI_nat (j := 0) rfl, bn, .ref t2, rfl, .inl ⟨_, Sum.inr r.nm, e1.rd h3, rfl, hv.symm⟩, t2, _, _, _, rfl, rfl, ht2, rfl, rfl, _, rfl, ?_⟩
    by_cases c : r.par = ""
    · refine ifF (by simp [c]) ⟨_, rfl, k l H' hl e1 ?_⟩
      rw [hl1, hp, hw.path hr1, c, path_root hw.wf]
      rfl
    · obtain ⟨r2, hr2, hr3⟩ := List.mem_map.mp ((hw.par_in hr1).resolve_left c)
      refine ifT (by simp [c]) ⟨fun σ' H2 => ∃ (r' : RowD) (ys : List Str), σ' = [some (.ref tr), some (.str r0.nm), some (.ref l)] ∧ Ex H H2 ∧ H2 l = some (.lst ((r'.nm :: ys).map V.str)) ∧ r' ∈ rs ∧ pathR (RR rs) r0.nm = pathR (RR rs) r'.nm ++ ys ∧ (pathR (RR rs) r'.nm).length < (pathR (RR rs) r.nm).length, ?_, ?_⟩
      · rintro σ' H2 ⟨r', ys', rfl, a1, a2, a3, a4, a5⟩
        exact ⟨_, a5, r', ys', rfl, a1, a2, a3, a4, rfl⟩
      · refine ⟨_, rfl, .inl ⟨rfl, _, K74.SqL.of' hl1⟩, _, rfl, tr, _, dx, _, _, rfl, e1 _ _ h1, T.c_Tree, T.n_Tree_by_name, rfl, _, rfl, l, _, _, .str r.nm, rfl, rfl, K74.SqL.of' hl1, atI_nat (j := 0) rfl, bn, .ref t2, rfl, .inl ⟨_, Sum.inr r.nm, e1.rd h3, rfl, hv.symm⟩, t2, _, _, _, rfl, rfl, ht2, rfl, ?_⟩
        refine ⟨l, _, 0, .str r.par, rfl, rfl, hl1, ?_, by decide, by decide, r2, r.nm :: ys, rfl, e1.mut hl, ?_, hr2, ?_, ?_⟩
        · rw [List.length_map, List.length_cons, sizeLine_eq]
          omega
        · rw [upd_same, hr3]
          rfl
        · rw [hp, hw.path hr1, hr3]
          simp
        · rw [hr3, hw.path hr1]
          simp
def spCkTree (K : PySem.W.Frag) : Sp := fun vs H Q _ => ∃ (tr : Addr) (rs : List RowD), vs = [.ref tr] ∧ TreeAt K H tr rs ∧ Q .non H
theorem ok_check_tree (T : Tx K mg) : Has P w K mg base CX0 1 d_check_tree P_check_tree (spCkTree K) := by
  refine has0 T _ at_d_check_tree sc_check_tree (fun fd F => b_check_tree F) (fun vs H Q E h => ?_) (fun cdv A outer s H vs Q E hr h => ?_)
  · obtain ⟨tr, rs, rfl, _⟩ := h
    rfl
  · obtain ⟨tr, rs, rfl, ⟨dx, ln, bn, bl, bnk, blk, h1, h2, h3, h4, h5, h6, h7⟩, k⟩ := h
    have nd := sc_check_tree.nd
    refine ⟨_, (pss_one (ps_if (pt_not (pt_val (pe_callB call_isi (by rfl) T.z_isinstance (by decide +kernel) (pa_cons (pv 0) (pa_cons (pe_glob (v := .ref (He.ga K "Tree")) (by rfl) T.g_Tree rfl) pa_nil))))) (pss_one ps_never) pss_nil)), ?_⟩
    have I := T.i_Tree
    exact ⟨_, rfl, _, _, _, _, true, rfl, .own _, .base (.ins h1 I.cl I.ha I.hn I.htk I.hm), I.me, true, rfl, ifF rfl k⟩
def spAllBelow (K : PySem.W.Frag) (n : Nat) : Sp := fun vs H Q _ => ∃ (tr : Addr) (x : Str) (rs : List RowD), vs = [.ref tr, .str x] ∧ TreeAt K H tr rs ∧ WfD rs ∧ (x = "" ∨ x ∈ nms rs) ∧ 9 ≤ (pathR (RR rs) x).length + n ∧
  ∀ p H' ys, H p = none → Ex H H' → H' p = some (.lst (ys.map V.str)) → ABq rs x ys → Q (.ref p) H'
theorem ok_all_below (T : Tx K mg) : ∀ n, Has P w K mg base CX0 (n + 1) d_all_below P_all_below (spAllBelow K n) := by
  intro n
  induction n with
  | zero =>
    refine has0 T _ at_d_all_below sc_all_below (fun fd F => b_all_below F) (fun vs H Q E h => ?_) (fun cdv A outer s H vs Q E hr h => ?_)
    · obtain ⟨tr, x, rs, rfl, _⟩ := h
      rfl
    · obtain ⟨tr, x, rs, rfl, hT, hw, hx, hn, k⟩ := h
      have := hw.path_le x
      omega
  | succ n ih =>
    have H_all_below : Has P w K mg base CX0 (n + 1) d_all_below P_all_below (spAllBelow K n) := ih
    refine has0 T _ at_d_all_below sc_all_below (fun fd F => b_all_below F) (fun vs H Q E h => ?_) (fun cdv A outer s H vs Q E hr h => ?_)
    · obtain ⟨tr, x, rs, rfl, _⟩ := h
      rfl
    · obtain ⟨tr, x, rs, rfl, hT, hw, hx, hn, k⟩ := h
      have hT0 := hT
      obtain ⟨dx, ln, bn, bl, bnk, blk, h1, h2, h3, h4, h5, h6, h7⟩ := hT
      have hu := hu_of hr
      have nd := sc_all_below.nd
      refine ⟨_, (pss_cons (ps_set (i := 2) nd rfl (Or.inl rfl) (pe_lst (pa_cons (pv 1) pa_nil)))
          (pss_cons (ps_for PassesOwn.never rfl (pi_list (pe_dget hu (peF K rfl (pv 0) rfl) (pv 1) (fun _ _ => rfl))) (pg_name (i := 3) nd rfl (Or.inl rfl))
            (pss_one (ps_set (i := 2) nd rfl (Or.inl rfl) (pe_op op_cat (pv 2) (pe_cl H_all_below hr (by first | decide | omega) T.g_all_below pass0 (pa_cons (pv 0) (pa_cons (pv 3) pa_nil)))))))
          (pss_one (ps_ret (pv 2))))), ?_⟩
      obtain ⟨ka, a1, a2⟩ := h7 x hx
      refine ⟨_, rfl, by show 1 ≤ sizeLine; decide, fun l hl => ?_⟩
      have e0 : Ex H (upd H l (.lst [.str x])) := Ex.new hl
      refine ⟨_, rfl, tr, _, dx, _, _, rfl, e0 _ _ h1, T.c_Tree, T.n_Tree_below, rfl, _, rfl, bl, .ref ka, rfl, .inl ⟨_, Sum.inr x, e0.rd h6, rfl, a1.symm⟩, ka, rfl, ⟨_, e0.l a2⟩, ?_⟩
      refine for_list (K := K) (a := ka) (xs := (kids (prs rs) x).map V.str) (fun i σ H' => ∃ (l' : Addr) (z : Option V) (ys : List Str), σ = [some (.ref tr), some (.str x), some (.ref l'), z] ∧ Ex H H' ∧ H l' = none ∧ H' l' = some (.lst (ys.map V.str)) ∧ ABi rs x ((kids (prs rs) x).take i) ys)
        ⟨l, _, [x], rfl, e0, hl, upd_same, abi_nil rs x⟩ (fun i σ H' _ p => ?_) (fun i y σ H' hy p => ?_) (fun σ H' p => ?_)
      · obtain ⟨l', z, ys, rfl, e1, _⟩ := p
        exact e1.l a2
      · obtain ⟨l', z, ys, rfl, e1, hl0, hl1, hb⟩ := p
        rw [List.getElem?_map] at hy
        obtain ⟨c, hc, rfl⟩ := Option.map_eq_some_iff.mp hy
        have hck := List.mem_of_getElem? hc
        have et : (kids (prs rs) x).take (i + 1) = (kids (prs rs) x).take i ++ [c] := by
          rw [List.take_succ, hc]
          rfl
        refine ⟨_, rfl, _, rfl, _, rfl, tr, c, rs, rfl, hT0.ex e1, hw, .inr (kid_name hck), by rw [kid_path hw hck]; omega, fun p H2 zs hp e2 h2 hz => ?_⟩
        have nb := abi_step hw hb hz hck (fun d hd => List.mem_of_mem_take hd) (fun hd => by
          have nd2 := (List.take_sublist (i + 1) (kids (prs rs) x)).nodup (kids_nodup hw x)
          rw [et, List.nodup_append] at nd2
          exact nd2.2.2 c hd c (List.mem_singleton.mpr rfl) rfl)
        have e3 := e1.trans e2
        refine ⟨l', p, _, _, rfl, rfl, e2 _ _ hl1, h2, ?_, fun q hq => ⟨q, _, ys ++ zs, rfl, e3.trans (Ex.new hq), e3.free hq, ?_, by rw [et]; exact nb⟩⟩
        · have hz9 := hz.len hw
          have : (ys ++ zs).length ≤ (x :: nms rs).length := nodup_le nb.1 fun y hy => by
            rcases (nb.2 y).mp hy with e | ⟨d, hd, hp⟩
            · rw [e]
              exact List.mem_cons_self
            · exact List.mem_cons_of_mem _ (path_in hp)
          have hf := hw.few
          rw [List.length_append, List.length_cons, List.length_map] at this
          rw [List.length_map, List.length_map, sizeLine_eq]
          omega
        · rw [upd_same, List.map_append]
      · obtain ⟨l', z, ys, rfl, e1, hl0, hl1, hb⟩ := p
        rw [List.length_map, take_len] at hb
        exact ⟨_, rfl, k l' H' ys hl0 e1 hl1 (abi_end hw hx hb)⟩
def spCkLeaf (K : PySem.W.Frag) : Sp := fun vs H Q _ => ∃ (tr : Addr) (x : Str) (rs : List RowD), vs = [.ref tr, .str x] ∧ TreeAt K H tr rs ∧ x ∈ lvs rs ∧ ∀ H', Ex H H' → Q .non H'
theorem ok_check_leaf (T : Tx K mg) : Has P w K mg base CX0 2 d_check_leaf P_check_leaf (spCkLeaf K) := by
  have H_Tree_contains : Has P w K mg base CX0 1 d_Tree_contains P_Tree_contains (spHas K) := ok_Tree_contains T
  have H_Tree_children : Has P w K mg base CX0 1 d_Tree_children P_Tree_children (spKids K) := ok_Tree_children T
  refine has0 T _ at_d_check_leaf sc_check_leaf (fun fd F => b_check_leaf F) (fun vs H Q E h => ?_) (fun cdv A outer s H vs Q E hr h => ?_)
  · obtain ⟨tr, x, rs, rfl, _⟩ := h
    rfl
  · obtain ⟨tr, x, rs, rfl, hT, hx, k⟩ := h
    obtain ⟨hx1, hx2⟩ := mem_lvs.mp hx
    have hT0 := hT
    obtain ⟨dx, ln, bn, bl, bnk, blk, h1, h2, h3, h4, h5, h6, h7⟩ := hT
    have nd := sc_check_leaf.nd
    refine ⟨_, (pss_one (ps_if (PW.pt (pw_or (pt_cmpR (op_ownNotInD H_Tree_contains hr (by first | decide | omega) T.m_Tree_contains pass0) (pv 1) (pv 0) (by rfl)) (pw_or1 (pt_cmpR (opNeD K rfl hr.units) (pe_ml H_Tree_children hr (by first | decide | omega) T.c_Tree T.m_Tree_children pass0 (pv 0) (pa_cons (pv 1) pa_nil)) (pe_lst pa_nil) (nomark _))))) (pss_one ps_never) pss_nil)), ?_⟩
    refine ⟨_, rfl, _, rfl, tr, dx, _, rfl, h1, tr, x, rs, rfl, hT0, _, rfl, _, rfl, ifF (by rw [decide_eq_true hx1]; rfl) ?_⟩
    refine ⟨_, rfl, tr, dx, _, rfl, h1, rfl, _, rfl, tr, x, rs, rfl, hT0, .inr hx1, fun p hp => ?_⟩
    have e1 : Ex H (upd H p (.lst ((kids (prs rs) x).map V.str))) := Ex.new hp
    rw [hx2] at e1 ⊢
    refine ⟨by show 0 ≤ sizeLine; decide, fun q hq => ?_⟩
    have e2 := e1.trans (Ex.new (o := .lst []) hq)
    have npq : p ≠ q := fun e => by
      rw [← e, upd_same] at hq
      cases hq
    refine ⟨.list [], .list [], .lst (K74.SqL.of' (by rw [upd_ne npq]; exact upd_same)) .nil, .lst (K74.SqL.of' upd_same) .nil, rfl, rfl, _, rfl, ifF rfl (k _ e2)⟩
def spCkPlace (K : PySem.W.Frag) : Sp := fun vs H Q _ => ∃ (tr : Addr) (x : Str) (rs : List RowD), vs = [.ref tr, .str x] ∧ TreeAt K H tr rs ∧ (x = "" ∨ x ∈ nms rs) ∧ Q .non H
theorem ok_check_place (T : Tx K mg) : Has P w K mg base CX0 2 d_check_place P_check_place (spCkPlace K) := by
  have H_Tree_contains : Has P w K mg base CX0 1 d_Tree_contains P_Tree_contains (spHas K) := ok_Tree_contains T
  refine has0 T _ at_d_check_place sc_check_place (fun fd F => b_check_place F) (fun vs H Q E h => ?_) (fun cdv A outer s H vs Q E hr h => ?_)
  · obtain ⟨tr, x, rs, rfl, _⟩ := h
    rfl
  · obtain ⟨tr, x, rs, rfl, hT, hx, k⟩ := h
    have hT0 := hT
    obtain ⟨dx, ln, bn, bl, bnk, blk, h1, h2, h3, h4, h5, h6, h7⟩ := hT
    have nd := sc_check_place.nd
    refine ⟨_, (pss_one (ps_if (PW.pt (pw_and (pt_cmpR (op_ownNotInD H_Tree_contains hr (by first | decide | omega) T.m_Tree_contains pass0) (pv 1) (pv 0) (by rfl)) (pw_and1 (pt_cmpR op_ne (pv 1) pe_str (nomark _))))) (pss_one ps_never) pss_nil)), ?_⟩
    refine ⟨_, rfl, _, rfl, tr, dx, _, rfl, h1, tr, x, rs, rfl, hT0, _, rfl, _, rfl, ?_⟩
    by_cases c : x ∈ nms rs
    · exact ifF (by rw [decide_eq_true c]; rfl) (ifF rfl k)
    · refine ifT (by rw [decide_eq_false c]; rfl) ⟨_, rfl, rfl, _, rfl, ifF (by simp [hx.resolve_right c]) (by first | exact k | exact ifF rfl k)⟩
def spCkPages : Sp := fun vs H Q _ => ∃ n : Int, vs = [.int n] ∧ 0 ≤ n ∧ Q .non H
theorem ok_check_pages (T : Tx K mg) : Has P w K mg base CX0 2 d_check_pages P_check_pages spCkPages := by
  have H_is_whole : Has P w K mg base CX0 1 d_is_whole ["thing", "least"] spIsWhole := ok_is_whole T
  refine has0 T _ at_d_check_pages sc_check_pages (fun fd F => b_check_pages F) (fun vs H Q E h => ?_) (fun cdv A outer s H vs Q E hr h => ?_)
  · obtain ⟨n, rfl, _⟩ := h
    rfl
  · obtain ⟨n, rfl, hn, k⟩ := h
    have nd := sc_check_pages.nd
    refine ⟨_, (pss_one (ps_if (pt_not (pt_val (pe_cl H_is_whole hr (by first | decide | omega) T.g_is_whole pass0 (pa_cons (pv 0) (pa_cons pe_int pa_nil))))) (pss_one ps_never) pss_nil)), ?_⟩
    exact ⟨_, rfl, n, 0, rfl, _, rfl, ifF (by simp [hn]) k⟩
theorem TreeAt.soft {H Hl : Hp} {d tr : Addr} {kvs : List (Key × V)} {rs : List RowD} (s : Soft d kvs H Hl) (h : TreeAt K H tr rs) : TreeAt K Hl tr rs := by
  obtain ⟨dx, ln, bn, bl, bnk, blk, h1, h2, h3, h4, h5, h6, h7⟩ := h
  exact ⟨dx, ln, bn, bl, bnk, blk, s.ins h1, s.rows h2, s.rd h3, fun r hr => (h4 r hr).imp fun v h => ⟨h.1, s.row h.2⟩, h5, s.rd h6, fun n hn => (h7 n hn).imp fun k h => ⟨h.1, s.l h.2⟩⟩
def spCkLimits (K : PySem.W.Frag) : Sp := fun vs H Q _ => ∃ (tr d : Addr) (b : Bool) (rs : List RowD) (ns : List Str) (S : Str → Int), vs = [.ref tr, .ref d, .bl b] ∧ TreeAt K H tr rs ∧ H d = some (.dK (fm ns S)) ∧ (∀ n, n ∈ ns → (n ∈ nms rs ∨ (b = true ∧ n = "")) ∧ 0 ≤ S n) ∧ Q .non H
theorem ok_check_limits (T : Tx K mg) : Has P w K mg base CX0 2 d_check_limits P_check_limits (spCkLimits K) := by
  have H_Tree_contains : Has P w K mg base CX0 1 d_Tree_contains P_Tree_contains (spHas K) := ok_Tree_contains T
  have H_is_whole : Has P w K mg base CX0 1 d_is_whole ["thing", "least"] spIsWhole := ok_is_whole T
  refine has0 T _ at_d_check_limits sc_check_limits (fun fd F => b_check_limits F) (fun vs H Q E h => ?_) (fun cdv A outer s H vs Q E hr h => ?_)
  · obtain ⟨tr, d, b, rs, ns, S, rfl, _⟩ := h
    rfl
  · obtain ⟨tr, d, b, rs, ns, S, rfl, hT, hd, hns, k⟩ := h
    have hu := hu_of hr
    have nd := sc_check_limits.nd
    refine ⟨_, (pss_cons (ps_if (pt_not (pt_val (pe_callB call_isi (by rfl) T.z_isinstance (by decide +kernel) (pa_cons (pv 1) (pa_cons (pe_bltn (v := .ty "dict") (by rfl) T.z_dict (by decide +kernel) rfl) pa_nil))))) (pss_one ps_never) pss_nil)
        (pss_one (ps_lock (ps_for PassesOwn.never rfl (pi_keys (pv 1)) (pg_name (i := 3) nd rfl (Or.inl rfl))
          (pss_cons (ps_if (PW.pt (pw_and (pt_cmpR (op_ownNotInD H_Tree_contains hr (by first | decide | omega) T.m_Tree_contains pass0) (pv 3) (pv 0) (by rfl)) (pw_and1 (pt_not (PW.pt (pw_and (pt_val (pv 2)) (pw_and1 (pt_cmpR op_eq (pv 3) pe_str (nomark _))))))))) (pss_one ps_never) pss_nil)
            (pss_one (ps_if (pt_not (pt_val (pe_cl H_is_whole hr (by first | decide | omega) T.g_is_whole pass0 (pa_cons (pe_dget hu (pv 1) (pv 3) (fun _ _ => rfl)) (pa_cons pe_int pa_nil))))) (pss_one ps_never) pss_nil))))))), ?_⟩
    refine ⟨_, rfl, _, _, _, _, true, rfl, .ty "dict", .base (.dK hd), kit_ty (by decide +kernel), true, rfl, ifF rfl ?_⟩
    refine lock_names hd (fun i σ H' => (∃ z, σ = [some (.ref tr), some (.ref d), some (.bl b), z]) ∧ ∃ od, H' = upd H d (.frz od (.dK (fm ns S)))) (fun od => ⟨⟨_, rfl⟩, od, rfl⟩) (fun i σ H' p => ?_) (fun Hl Q q => ⟨_, rfl, q⟩) (fun i n od σ H' hi hfz p => ?_) (fun σ H' p => ?_)
    · obtain ⟨_, od, rfl⟩ := p
      exact ⟨od, upd_same⟩
    · obtain ⟨⟨z, rfl⟩, od', rfl⟩ := p
      have so := Soft.of od' hd
      have hT1 := hT.soft so
      obtain ⟨dx, ln, bn, bl, bnk, blk, h1, h2, h3, h4, h5, h6, h7⟩ := hT1
      obtain ⟨c1, c2⟩ := hns n (List.mem_of_getElem? hi)
      have fin : ∀ D : Ends, True := fun _ => trivial
      refine ⟨_, rfl, _, rfl, tr, dx, _, rfl, h1, tr, n, rs, rfl, hT.soft so, _, rfl, _, rfl, ?_⟩
      by_cases c : n ∈ nms rs
      · refine ifF (by rw [decide_eq_true c]; rfl) ?_
        exact ⟨_, rfl, _, rfl, d, _, rfl, get_fm (.inr ⟨_, upd_same⟩) (List.mem_of_getElem? hi), S n, 0, rfl, _, rfl, ifF (by simp [c2]) ⟨hfz, ⟨_, rfl⟩, _, rfl⟩⟩
      · obtain ⟨rfl, rfl⟩ := c1.resolve_left c
        refine ifT (by rw [decide_eq_false c]; rfl) ⟨_, rfl, _, rfl, iteT ⟨_, rfl, rfl, _, rfl, ?_⟩⟩
        refine ifF (by simp) ?_
        exact ⟨_, rfl, _, rfl, d, _, rfl, get_fm (.inr ⟨_, upd_same⟩) (List.mem_of_getElem? hi), S "", 0, rfl, _, rfl, ifF (by simp [c2]) ⟨hfz, ⟨_, rfl⟩, _, rfl⟩⟩
    · obtain ⟨⟨z, rfl⟩, od', rfl⟩ := p
      rw [upd_back hd]
      exact k
end
end K74
set_option Elab.async false
set_option linter.all false
set_option maxRecDepth 100000
set_option maxHeartbeats 4000000
namespace K74
open PySem PySem.Spec PyProof.Rows L2
section
variable {P : Program} {w : World} {K : PySem.W.Frag} {mg : Str → Option Value} {base : Heap}
abbrev N_l_rows : List Str := ["_law_source_here", "_law_most_here", "_law_names", "_law_found", "_law_name", "_law_above", "_law_place", "_law_weight", "_law_cap", "_law_row"]
abbrev P_l_rows : List Str := ["_law_source_here", "_law_most_here"]
theorem sc_l_rows : FnScope N_l_rows P_l_rows (defScope s_l_rows) := C8.fnScope_by (by decide +kernel)
theorem b_l_rows {K : PySem.W.Frag} {fd : FuncData} (F : FunD K d_l_rows.name d_l_rows.qual d_l_rows.params d_l_rows.body d_l_rows.scope (d_l_rows.dvs K) (d_l_rows.kws K) (He.fAd K d_l_rows.at_) fd) : L2.Binds K fd P_l_rows [] :=
  FunD.bindsN F fun _ _ _ _ _ _ us hl => match us, hl with | [_, _], _ => rfl
def P16 : List Str := ["a", "users", "abc", "workera", "b", "ba", "database", "c", "cc", "caches", "d", "da", "workerb", "dd", "e", "ebbing"]
theorem P16_nodup : P16.Nodup := by decide +kernel
instance (x : Str) : Decidable (NameOk x) := by unfold NameOk; exact inferInstance
theorem P16_ok : ∀ x, x ∈ P16 → NameOk x := by decide +kernel
theorem shaped_strsO {ys : List Str} (h : ∀ y, y ∈ ys → PyData.strOk y = true) : SeqAt.shaped (.list (ys.map PyData.str)) = true := by
  have h1 : PyData.canLayAll0 (ys.map PyData.str) = true := by
    induction ys with
    | nil => rfl
    | cons y ys ih =>
      show (PyData.strOk y && PyData.canLayAll0 (ys.map PyData.str)) = true
      rw [h y List.mem_cons_self, ih fun z hz => h z (List.mem_cons_of_mem _ hz)]
      rfl
  have h2 : PyData.depthAll (ys.map PyData.str) = 0 := by
    clear h h1
    induction ys with
    | nil => rfl
    | cons y ys ih =>
      show max 0 (PyData.depthAll (ys.map PyData.str)) = 0
      rw [ih]
      rfl
  unfold SeqAt.shaped
  show (PyData.canLayAll0 (ys.map PyData.str) && decide (PyData.depthAll (ys.map PyData.str) + 1 ≤ 64)) = true
  rw [h1, h2]
  rfl
theorem erase_map {α β : Type} (f : α → β) : ∀ (xs : List α) (k : Nat), (xs.map f).eraseIdx k = (xs.eraseIdx k).map f
  | [], _ => rfl
  | x :: xs, 0 => rfl
  | x :: xs, k + 1 => by
    simp only [List.map_cons, List.eraseIdx_cons_succ, erase_map f xs k]
/-- a name is popped -/
theorem pop_name {ns : List Str} {r : Int} (h0 : 0 ≤ r) (h1 : r < (ns.length : Nat)) : ∃ (y : Str) (k : Nat) (ns' : List Str), seqIndex? r (ns.map V.str).length = some k ∧ (ns.map V.str)[k]? = some (.str y) ∧ (ns.map V.str).eraseIdx k = ns'.map V.str ∧ y ∈ ns ∧ (∀ z, z ∈ ns' → z ∈ ns) ∧ (ns.Nodup → ns'.Nodup ∧ y ∉ ns') ∧ ns'.length + 1 = ns.length := by
  have hk : r.toNat < ns.length := by omega
  have hg : ns[r.toNat]? = some ns[r.toNat] := List.getElem?_eq_getElem hk
  refine ⟨ns[r.toNat], r.toNat, ns.eraseIdx r.toNat, ?_, by rw [List.getElem?_map, hg]; rfl, erase_map _ _ _, List.mem_of_getElem? hg, fun z hz => (List.eraseIdx_sublist _ _).subset hz, fun nd => ⟨(List.eraseIdx_sublist _ _).nodup nd, ?_⟩, ?_⟩
  · have e : ¬ r < 0 := by omega
    have e2 : (decide (0 ≤ r) && decide (r < (ns.length : Nat))) = true := by simp [h0, h1]
    simp only [seqIndex?, List.length_map, if_neg e, e2, if_true]
  · have h2 := List.eraseIdx_eq_take_drop_succ ns r.toNat
    have e : ns.take r.toNat ++ ns[r.toNat] :: ns.drop (r.toNat + 1) = ns := by rw [← List.drop_eq_getElem_cons hk, List.take_append_drop]
    intro hm
    rw [h2] at hm
    rw [← e, List.nodup_append] at nd
    rcases List.mem_append.mp hm with z | z
    · exact nd.2.2 _ z ns[r.toNat] List.mem_cons_self rfl
    · exact (List.nodup_cons.mp nd.2.1).1 (by simpa [e] using z)
  · rw [List.length_eraseIdx_of_lt hk]
    omega
theorem src_keepT {a : Addr} {H H' : Hp} (k : Keep [a] H H') (s : SrcAt H a) : KeepT H H' := fun b o hb hn => k b o hb fun z => by
  obtain ⟨x, y, w, h⟩ := s
  rw [List.mem_singleton.mp z, h] at hb
  exact hn _ (Option.some.inj hb).symm
theorem keepA {a b : Addr} {H H' : Hp} {o : HO} (k : Keep [a] H H') (h : H b = some o) (hn : b ≠ a) : H' b = some o := k b o h (by simpa using hn)
/-- an item by a place counted from either end -/
theorem at_any (ys : List Str) {i : Int} (h : (0 ≤ i ∧ i < (ys.length : Nat)) ∨ (-(ys.length : Nat) ≤ i ∧ i < 0)) : ∃ y, y ∈ ys ∧ atI (ys.map V.str) i = some (.str y) := by
  have hj : ∃ j, j < ys.length ∧ ixN (ys.map V.str).length i = some j := by
    unfold ixN
    rw [List.length_map]
    rcases h with ⟨h0, h1⟩ | ⟨h0, h1⟩
    · exact ⟨i.toNat, by omega, by rw [if_pos h0, if_pos h1]⟩
    · exact ⟨(i + (ys.length : Nat)).toNat, by omega, by rw [if_neg (by omega), if_pos h0]⟩
  obtain ⟨j, hj, e⟩ := hj
  refine ⟨ys[j], List.getElem_mem hj, ?_⟩
  unfold atI
  rw [e]
  show (ys.map V.str)[j]? = _
  rw [List.getElem?_map, List.getElem?_eq_getElem hj]
  rfl
def spRows (K : PySem.W.Frag) : Sp := fun vs H Q _ => ∃ a : Addr, vs = [.ref a, .int 8] ∧ SrcAt H a ∧ ∀ p H' ys rs, H p = none → Keep [a] H H' → SrcAt H' a → H' p = some (.lst ys) → Reps (RowR K) H' ys rs → WfD rs → Q (.ref p) H'
theorem names_cut {r r2 : Int} (h0 : 0 ≤ r) (h1 : r < 9) (h2 : 0 ≤ r2) (h3 : r2 < 8) : ∃ ns : List Str, cutV (cutV (P16.map V.str) (some r) none) none (some (1 + r2)) = ns.map V.str ∧ ns.Nodup ∧ (∀ y, y ∈ ns → NameOk y) ∧ 1 ≤ ns.length ∧ ns.length ≤ 8 := by
  obtain ⟨A, rfl⟩ := Int.eq_ofNat_of_zero_le h0
  obtain ⟨B, rfl⟩ := Int.eq_ofNat_of_zero_le h2
  have e16 : P16.length = 16 := rfl
  refine ⟨((P16.drop A).take (16 - A)).take (1 + B), ?_, ?_, ?_, ?_, ?_⟩
  · have e1 : (1 : Int) + (B : Int) = ((1 + B : Nat) : Int) := by omega
    rw [e1]
    unfold cutV
    rw [HT.sIx_none, HT.sIx_none, HT.sIx_nat, HT.sIx_nat, List.length_map, e16, List.drop_zero]
    have e2 : min A 16 = A := by omega
    rw [e2, List.length_take, List.length_drop, List.length_map, e16, ← List.map_drop, ← List.map_take, ← List.map_take]
    congr 2
    omega
  · exact (List.take_sublist _ _).nodup ((List.take_sublist _ _).nodup ((List.drop_sublist _ _).nodup P16_nodup))
  · intro y hy
    exact P16_ok y (List.mem_of_mem_drop (List.mem_of_mem_take (List.mem_of_mem_take hy)))
  · rw [List.length_take, List.length_take, List.length_drop, e16]
    omega
  · rw [List.length_take]
    omega
theorem k_none {a p : Addr} {H H' : Hp} (k : Keep [a] H H') (h : H' p = none) (s : SrcAt H a) (s' : SrcAt H' a := by assumption) : H p = none := by
  cases e : H p with
  | none => rfl
  | some o =>
    by_cases c : p = a
    · obtain ⟨x, y, z, q⟩ := s'
      rw [c, q] at h
      cases h
    · rw [keepA k e c] at h
      cases h
structure RowsInv (K : PySem.W.Frag) (a : Addr) (H H' : Hp) (pn pf : Addr) (ns : List Str) (ys : List V) (rs : List RowD) : Prop where
  k : Keep [a] H H'
  s : SrcAt H' a
  hn : H' pn = some (.lst (ns.map V.str))
  hf : H' pf = some (.lst ys)
  rr : Reps (RowR K) H' ys rs
  wf : WfR ("" : Str) (RR rs)
  ok : ∀ r, r ∈ rs → RowOk r
  nd : ns.Nodup
  nok : ∀ y, y ∈ ns → NameOk y ∧ y ∉ nms rs
  few : ns.length + rs.length ≤ 8
theorem RowsInv.keep {a : Addr} {H H' H2 : Hp} {pn pf : Addr} {ns : List Str} {ys : List V} {rs : List RowD} (I : RowsInv K a H H' pn pf ns ys rs) (k : Keep [a] H' H2) (s : SrcAt H2 a) (h1 : pn ≠ a) (h2 : pf ≠ a) : RowsInv K a H H2 pn pf ns ys rs :=
  ⟨I.k.trans k, s, keepA k I.hn h1, keepA k I.hf h2, I.rr.keep (fun _ _ _ _ e h => h.keep e) (src_keepT k I.s), I.wf, I.ok, I.nd, I.nok, I.few⟩
theorem ok_l_rows (T : Tx K mg) : Has P w K mg base CX0 4 d_l_rows P_l_rows (spRows K) := by
  have H_l_next : Has P w K mg base CX0 2 d_l_next P_l_next spNext := ok_l_next T
  have H_l_part : Has P w K mg base CX0 3 d_l_part P_l_part (spPart K) := ok_l_part T
  have H_l_path : Has P w K mg base CX0 1 d_l_path P_l_path (spPath K) := ok_l_path T
  refine has0 T _ at_d_l_rows sc_l_rows (fun fd F => b_l_rows F) (fun vs H Q E h => ?_) (fun cdv A outer s H vs Q E hr h => ?_)
  · obtain ⟨a, rfl, _⟩ := h
    rfl
  · obtain ⟨a, rfl, hs, k⟩ := h
    have hu := hu_of hr
    have nd := sc_l_rows.nd
    refine ⟨_, (pss_cons (ps_set (i := 2) nd rfl (Or.inl rfl) (pe_lst (pa_cons pe_str (pa_cons pe_str (pa_cons pe_str (pa_cons pe_str (pa_cons pe_str (pa_cons pe_str (pa_cons pe_str (pa_cons pe_str (pa_cons pe_str (pa_cons pe_str (pa_cons pe_str (pa_cons pe_str (pa_cons pe_str (pa_cons pe_str pa_nil))))))))))))))))
        (pss_cons (ps_set (i := 2) nd rfl (Or.inl rfl) (pe_op op_cat (pv 2) (pe_lst (pa_cons pe_str (pa_cons pe_str pa_nil)))))
        (pss_cons (ps_set (i := 2) nd rfl (Or.inl rfl) (pe_slice (slL K rfl) (pe_slice (slL K rfl) (pv 2) (po_some (pe_cl H_l_next hr (by first | decide | omega) T.g_l_next pass0 (pa_cons (pv 0) (pa_cons (pe_op op_sub pe_int (pv 1)) pa_nil)))) po_none) po_none (po_some (pe_op op_add pe_int (pe_cl H_l_next hr (by first | decide | omega) T.g_l_next pass0 (pa_cons (pv 0) (pa_cons (pv 1) pa_nil)))))))
        (pss_cons (ps_set (i := 3) nd rfl (Or.inr rfl) (pe_lst pa_nil))
        (pss_cons (ps_while PassesOwn.never (pt_cmpR (opNeD K rfl hr.units) (pv 2) (pe_lst pa_nil) (nomark _))
          (pss_cons (ps_set (i := 4) nd rfl (Or.inl rfl) (pe_bm PySem.F.plainAttrs_list PySem.F.slot_list_pop PySem.F.type_list_pop mt_popAt (pv 2) (pa_cons (pe_cl H_l_next hr (by first | decide | omega) T.g_l_next pass0 (pa_cons (pv 0) (pa_cons (pe_callB (callLen K rfl) (by rfl) T.z_len (by decide +kernel) (pa_cons (pv 2) pa_nil)) pa_nil))) pa_nil)))
            (pss_cons (ps_set (i := 5) nd rfl (Or.inl rfl) (pe_op op_cat (pe_lst (pa_cons pe_str pa_nil)) (pe_lc (own := [("_law_row", 9)]) (g := gName 9) rfl nd (pi_list (pv 3)) (blkOk_by (N := N_l_rows) (sc := defScope s_l_rows) (by decide +kernel)) (fun _ _ _ _ _ => pg_name (i := 9) nd rfl (Or.inl rfl)) (fun _ _ _ _ _ => (pts_one (pt_cmpR op_lt (pe_callB (callLen K rfl) (by rfl) T.z_len (by decide +kernel) (pa_cons (pe_cl H_l_path hr (by first | decide | omega) T.g_l_path pass0 (pa_cons (pv 3) (pa_cons (pe_ix (ixT K rfl) (pv 9) pe_int (fun _ _ => rfl)) pa_nil))) pa_nil)) pe_int (nomark _)))) (fun _ _ _ _ _ => (pe_ix (ixT K rfl) (pv 9) pe_int (fun _ _ => rfl))))))
            (pss_cons (ps_set (i := 6) nd rfl (Or.inl rfl) (pe_ix (ixL K rfl) (pv 5) (pe_cl H_l_next hr (by first | decide | omega) T.g_l_next pass0 (pa_cons (pv 0) (pa_cons (pe_callB (callLen K rfl) (by rfl) T.z_len (by decide +kernel) (pa_cons (pv 5) pa_nil)) pa_nil))) (fun _ _ => rfl)))
            (C8.pss_cut (ps_if (pt_cmpR op_eq (pe_cl H_l_next hr (by first | decide | omega) T.g_l_next pass0 (pa_cons (pv 0) (pa_cons pe_int pa_nil))) pe_int (nomark _)) (pss_one (ps_set (i := 6) nd rfl (Or.inl rfl) (pe_ix (ixL K rfl) (pv 5) (pe_op op_sub (pe_un un_neg pe_int) (pe_cl H_l_next hr (by first | decide | omega) T.g_l_next pass0 (pa_cons (pv 0) (pa_cons (pe_callB (call_min2 rfl) (by rfl) T.z_min (by decide +kernel) (pa_cons pe_int (pa_cons (pe_callB (callLen K rfl) (by rfl) T.z_len (by decide +kernel) (pa_cons (pv 5) pa_nil)) pa_nil))) pa_nil)))) (fun _ _ => rfl)))) pss_nil)
            (pss_cons (ps_set (i := 7) nd rfl (Or.inl rfl) (pe_ix (ixL K rfl) (pe_lst (pa_cons pe_int (pa_cons (pe_op op_add pe_int (pe_cl H_l_next hr (by first | decide | omega) T.g_l_next pass0 (pa_cons (pv 0) (pa_cons pe_int pa_nil)))) (pa_cons (pe_op op_add pe_int (pe_cl H_l_next hr (by first | decide | omega) T.g_l_next pass0 (pa_cons (pv 0) (pa_cons pe_int pa_nil)))) pa_nil)))) (pe_cl H_l_next hr (by first | decide | omega) T.g_l_next pass0 (pa_cons (pv 0) (pa_cons pe_int pa_nil))) (fun _ _ => rfl)))
            (pss_cons (ps_set (i := 8) nd rfl (Or.inl rfl) (pe_ix (ixL K rfl) (pe_lst (pa_cons pe_non (pa_cons pe_non (pa_cons (pe_cl H_l_part hr (by first | decide | omega) T.g_l_part pass0 (pa_cons (pv 0) pa_nil)) pa_nil)))) (pe_cl H_l_next hr (by first | decide | omega) T.g_l_next pass0 (pa_cons (pv 0) (pa_cons pe_int pa_nil))) (fun _ _ => rfl)))
            (pss_one (ps_expr (pe_bm PySem.F.plainAttrs_list PySem.F.slot_list_append PySem.F.type_list_append mt_append (pv 3) (pa_cons (pe_tup (pa_cons (pv 4) (pa_cons (pv 6) (pa_cons (pv 7) (pa_cons (pv 8) pa_nil))))) pa_nil)))))))))))
        (pss_one (ps_ret (pv 3)))))))), ?_⟩
    refine ⟨by show 14 ≤ sizeLine; decide, fun l1 hl1 => ?_⟩
    refine ⟨_, rfl, by show 2 ≤ sizeLine; decide, fun l2 hl2 => ?_⟩
    refine ⟨l1, l2, _, _, rfl, rfl, (Ex.new hl2) _ _ upd_same, upd_same, by show 14 + 2 ≤ sizeLine; decide, fun l3 hl3 => ?_⟩
    have n3 : H l3 = none := ((Ex.new hl1).trans (Ex.new hl2)).free hl3
    have na : ∀ {p : Addr}, H p = none → p ≠ a := fun hp e => by
      obtain ⟨x, y, z, q⟩ := hs
      rw [← e, hp] at q
      cases q
    refine ⟨_, rfl, _, rfl, _, rfl, _, _, rfl, rfl, a, _, rfl, hs.ex (((Ex.new hl1).trans (Ex.new hl2)).trans (Ex.new hl3)), by decide, by decide, fun r H4 r0 r1 k4 s4 => ?_⟩
    have kk4 : Keep [a] H H4 := (Keep.of (((Ex.new hl1).trans (Ex.new hl2)).trans (Ex.new hl3))).trans k4
    have h4 : H4 l3 = some (.lst (P16.map V.str)) := keepA k4 upd_same (na n3)
    refine ⟨_, rfl, l3, _, rfl, K74.SqL.of' h4, fun l5 hl5 => ?_⟩
    refine ⟨_, rfl, _, rfl, a, _, rfl, s4.new hl5, by decide, by decide, fun r2 H6 r20 r21 k6 s6 => ?_⟩
    obtain ⟨ns0, hc, nd0, ok0, on0, le0⟩ := names_cut r0 (by exact r1) r20 (by exact r21)
    have kk6 : Keep [a] H H6 := (kk4.trans (Keep.of (Ex.new hl5))).trans k6
    have n5 : H l5 = none := k_none kk4 hl5 hs
    have h6 : H6 l5 = some (.lst (cutV (P16.map V.str) (some r) none)) := keepA k6 upd_same (na n5)
    refine ⟨_, _, rfl, rfl, _, rfl, l5, _, rfl, K74.SqL.of' h6, fun pn hpn => ?_⟩
    rw [hc]
    have npn : H pn = none := k_none kk6 hpn hs
    refine ⟨by show 0 ≤ sizeLine; decide, fun pf hpf => ?_⟩
    have npf : H pf = none := k_none (kk6.trans (Keep.of (Ex.new hpn))) hpf hs (s6.new hpn)
    have hne : pf ≠ pn := fun e => by rw [e, upd_same] at hpf; cases hpf
    refine ⟨fun m σ H' => ∃ (ns : List Str) (ys : List V) (rs : List RowD) (z4 z5 z6 z7 z8 z9 : Option V), σ = [some (.ref a), some (.int 8), some (.ref pn), some (.ref pf), z4, z5, z6, z7, z8, z9] ∧ RowsInv K a H H' pn pf ns ys rs ∧ 1 ≤ ns.length + rs.length ∧ m = ns.length,
      ⟨_, ns0, [], [], _, _, _, _, _, _, rfl, ?_, by simpa using on0, rfl⟩, ?_⟩
    · exact ⟨(kk6.trans (Keep.of (Ex.new hpn))).trans (Keep.of (Ex.new hpf)), (s6.new hpn).new hpf, (Ex.new hpf) _ _ upd_same, upd_same, ⟨[], rfl, rfl, fun p h => by cases h⟩, trivial, (fun r h => by cases h), nd0, (fun y hy => ⟨ok0 y hy, by simp [nms]⟩), by simpa using le0⟩
    rintro m σ H' ⟨ns, ys, rs, z4, z5, z6, z7, z8, z9, rfl, I, on, rfl⟩
    refine ⟨_, rfl, by show 0 ≤ sizeLine; decide, fun le hle => ?_⟩
    replace I := I.keep (Keep.of (Ex.new (o := .lst []) hle)) (I.s.new hle) (na npn) (na npf)
    refine ⟨.list (ns.map PyData.str), .list [], .lst (K74.SqL.of' I.hn) (dp_strs _), .lst (K74.SqL.of' upd_same) .nil, shaped_strs (fun y hy => (I.nok y hy).1), rfl, ?_⟩
    rw [eqv_strs_nil]
    obtain ⟨Ha, hHa⟩ : ∃ Ha, Ha = upd H' le (.lst []) := ⟨_, rfl⟩
    rw [← hHa] at I ⊢
    clear hHa hle
    refine ⟨_, rfl, ?_⟩
    by_cases c : ns = []
    · refine ifF (by simp [c]) ?_
      subst c
      exact ⟨_, rfl, k pf Ha ys rs npf I.k I.s I.hf I.rr ⟨I.wf, by simpa using on, by simpa using I.few, I.ok⟩⟩
    · refine ifT (by simp [c]) ?_
      have hlen : 0 < ns.length := List.length_pos_iff.mpr c
      refine ⟨fun σ' H2 => ∃ (ns' : List Str) (ys : List V) (rs : List RowD) (z4 z5 z6 z7 z8 z9 : Option V), σ' = [some (.ref a), some (.int 8), some (.ref pn), some (.ref pf), z4, z5, z6, z7, z8, z9] ∧ RowsInv K a H H2 pn pf ns' ys rs ∧ 1 ≤ ns'.length + rs.length ∧ ns'.length < ns.length, ?_, ?_⟩
      · rintro σ' H2 ⟨ns', ys', rs', y4, y5, y6, y7, y8, y9, rfl, I', on', hl'⟩
        exact ⟨_, hl', ns', ys', rs', y4, y5, y6, y7, y8, y9, rfl, I', on', rfl⟩
      · refine ⟨_, rfl, .inl ⟨rfl, _, K74.SqL.of' I.hn⟩, _, rfl, _, rfl, pn, _, rfl, .inl (K74.SqL.of' I.hn), ?_⟩
        have hfew := I.few
        rw [List.length_map]
        refine ⟨a, _, rfl, I.s, by omega, by omega, fun r H1 r0 r1 k1 s1 => ?_⟩
        replace I := I.keep k1 s1 (na npn) (na npf)
        obtain ⟨y, kx, ns', e1, e2, e3, e4, e5, e6, e7⟩ := pop_name r0 r1
        refine ⟨pn, _, r, kx, .str y, rfl, rfl, I.hn, by omega, by omega, e1, e2, ?_⟩
        rw [e3]
        have J : RowsInv K a H (upd H1 pn (.lst (ns'.map V.str))) pn pf ns' ys rs := by
          refine ⟨fun b o hb hn => ?_, ?_, upd_same, ?_, I.rr.keep (fun _ _ _ _ e h => h.keep e) (KeepT.lst I.hn), I.wf, I.ok, (e6 I.nd).1, fun z hz => I.nok z (e5 z hz), by omega⟩
          · rw [upd_ne fun e => by rw [e, npn] at hb; cases hb]
            exact I.k b o hb hn
          · obtain ⟨x, y, z, q⟩ := I.s
            exact ⟨x, y, z, by rw [upd_ne (na npn).symm]; exact q⟩
          · rw [upd_ne hne]
            exact I.hf
        have hy := I.nok y e4
        have hyn := (e6 I.nd).2
        obtain ⟨Hb, hHb⟩ : ∃ Hb, Hb = upd H1 pn (.lst (ns'.map V.str)) := ⟨_, rfl⟩
        rw [← hHb] at J ⊢
        clear hHb I
        refine ⟨by show 1 ≤ sizeLine; decide, fun l0 hl0 => ?_⟩
        replace J := J.keep (Keep.of (Ex.new (o := .lst [.str ""]) hl0)) (J.s.new hl0) (na npn) (na npf)
        have hR := rowsAt_of_reps J.hf J.rr
        refine ⟨_, rfl, pf, rfl, hR.sq, fun D hD => ?_⟩
        have hrs8 : rs.length ≤ 8 := by have := J.few; omega
        refine lc_rows hR hrs8 (fun q => if decide ((pathR (RR rs) q.nm).length < 7) = true then some (V.str q.nm) else none) hD (fun i t q cv H3 hb e hT hc Q q1 => ?_) (fun H3 e3 h3 => ?_)
        · have hq : q ∈ rs := List.mem_of_getElem? hb
          have hw : WfD rs := ⟨J.wf, List.length_pos_of_mem hq, hrs8, J.ok⟩
          refine ⟨rfl, _, rfl, _, rfl, t, _, _, _, rfl, rfl, hT, rfl, pf, q.nm, rs, rfl, hR.ex e, hw, .inr (List.mem_map.mpr ⟨q, hq, rfl⟩), fun pp H4 zs cs hp e4 h4 r4 c4 _ => ?_⟩
          refine ⟨pp, _, rfl, .inl (K74.SqL.of' h4), ?_⟩
          have hz : zs.length = (pathR (RR rs) q.nm).length := by rw [r4.len, ← c4, List.length_map]
          rw [hz]
          refine ⟨_, _, rfl, rfl, _, rfl, ?_⟩
          by_cases c2 : (pathR (RR rs) q.nm).length < 7
          · rw [if_pos (decide_eq_true c2)] at q1
            exact ifT (decide_eq_true (by show ((pathR (RR rs) q.nm).length : Int) < 7; omega)) ⟨_, rfl, t, _, _, _, rfl, rfl, (e4.t hT), rfl, q1 _ e4⟩
          · rw [if_neg (by simp [c2])] at q1
            exact ifF (decide_eq_false (by show ¬ ((pathR (RR rs) q.nm).length : Int) < 7; omega)) (q1 _ e4)
        · rw [filterMap_if] at h3
          replace J := J.keep (Keep.of e3) (J.s.ex e3) (na npn) (na npf)
          refine ⟨l0, D, _, _, rfl, rfl, e3 _ _ upd_same, h3, ?_, fun ab hab => ?_⟩
          · have := List.length_filter_le (fun q : RowD => decide ((pathR (RR rs) q.nm).length < 7)) rs
            rw [List.length_map, sizeLine_eq]
            show 1 + _ ≤ _
            omega
          obtain ⟨ab0, hab0⟩ : ∃ ab0 : List Str, ab0 = ("" : Str) :: (rs.filter fun q => decide ((pathR (RR rs) q.nm).length < 7)).map (·.nm) := ⟨_, rfl⟩
          have eab : [V.str ""] ++ ((rs.filter fun q => decide ((pathR (RR rs) q.nm).length < 7)).map fun q => V.str q.nm) = ab0.map V.str := by
            rw [hab0, List.map_cons, List.map_map]
            rfl
          have mab : ∀ x, x ∈ ab0 → x = "" ∨ x ∈ nms rs := by
            intro x hx
            rw [hab0] at hx
            rcases List.mem_cons.mp hx with z | z
            · exact .inl z
            · obtain ⟨q, hq, rfl⟩ := List.mem_map.mp z
              exact .inr (List.mem_map.mpr ⟨q, (List.mem_filter.mp hq).1, rfl⟩)
          have lab : 1 ≤ ab0.length ∧ ab0.length ≤ 9 := by
            have := List.length_filter_le (fun q : RowD => decide ((pathR (RR rs) q.nm).length < 7)) rs
            rw [hab0, List.length_cons, List.length_map]
            omega
          rw [show ([V.str (Str.ofString "")] ++ ((rs.filter fun q => decide ((pathR (RR rs) q.nm).length < 7)).map fun q => V.str q.nm)) = ab0.map V.str from eab]
          clear hab0 eab
          have nab : H ab = none := k_none J.k hab hs J.s
          replace J := J.keep (Keep.of (Ex.new (o := .lst (ab0.map V.str)) hab)) (J.s.new hab) (na npn) (na npf)
          have hA : upd H3 ab (.lst (ab0.map V.str)) ab = some (.lst (ab0.map V.str)) := upd_same
          obtain ⟨Hc, hHc⟩ : ∃ Hc, Hc = upd H3 ab (.lst (ab0.map V.str)) := ⟨_, rfl⟩
          rw [← hHc] at J hA ⊢
          clear hHc h3 hR
          refine ⟨_, rfl, _, rfl, _, rfl, ab, _, rfl, .inl (K74.SqL.of' hA), ?_⟩
          rw [List.length_map]
          refine ⟨a, _, rfl, J.s, by omega, by omega, fun r2 H5 r20 r21 k5 s5 => ?_⟩
          replace J := J.keep k5 s5 (na npn) (na npf)
          replace hA := keepA k5 hA (na nab)
          obtain ⟨pl, hpl, api⟩ := at_any ab0 (i := r2) (.inl ⟨r20, r21⟩)
          refine ⟨ab, _, _, .str pl, rfl, rfl, K74.SqL.of' hA, api, ?_⟩
          refine ⟨fun σ' H6 => ∃ pl, pl ∈ ab0 ∧ σ' = [some (.ref a), some (.int 8), some (.ref pn), some (.ref pf), some (.str y), some (.ref ab), some (.str pl), z7, z8, z9] ∧ RowsInv K a H H6 pn pf ns' ys rs, ?_, ?_⟩
          · refine ⟨_, rfl, a, _, rfl, J.s, by decide, by decide, fun r3 H6 _ _ k6 s6 => ?_⟩
            replace J := J.keep k6 s6 (na npn) (na npf)
            replace hA := keepA k6 hA (na nab)
            refine ⟨rfl, _, rfl, ?_⟩
            by_cases c3 : r3 = 0
            · refine ifT (by simp [c3]) ?_
              refine ⟨_, rfl, _, rfl, _, rfl, _, rfl, ab, _, rfl, .inl (K74.SqL.of' hA), ?_⟩
              rw [List.length_map]
              refine ⟨_, _, rfl, ?_⟩
              obtain ⟨mn, hmn⟩ : ∃ mn, mn = (if (ab0.length : Int) < 2 then (ab0.length : Int) else 2) := ⟨_, rfl⟩
              rw [← hmn]
              have hm1 : 0 < mn ∧ mn ≤ (ab0.length : Int) ∧ mn < 2 ^ 62 := by
                rw [hmn]
                split <;> omega
              refine ⟨a, _, rfl, J.s, hm1.1, hm1.2.2, fun r4 H7 r40 r41 k7 s7 => ?_⟩
              replace J := J.keep k7 s7 (na npn) (na npf)
              replace hA := keepA k7 hA (na nab)
              obtain ⟨pl2, hpl2, api2⟩ := at_any ab0 (i := -1 - r4) (.inr ⟨by omega, by omega⟩)
              exact ⟨_, _, rfl, rfl, ab, _, _, .str pl2, rfl, rfl, K74.SqL.of' hA, api2, pl2, hpl2, rfl, J⟩
            · exact ifF (by simp [c3]) ⟨pl, hpl, rfl, J⟩
          clear hpl api hA pl
          rintro σ' H6 ⟨pl, hpl, rfl, J⟩
          refine ⟨_, rfl, a, _, rfl, J.s, by decide, by decide, fun w1 H7 w10 w11 k7 s7 => ⟨_, _, rfl, rfl, _, rfl, a, _, rfl, s7, by decide, by decide, fun w2 H8 w20 w21 k8 s8 => ⟨_, _, rfl, rfl, ?_⟩⟩⟩
          replace J := J.keep (k7.trans k8) s8 (na npn) (na npf)
          refine ⟨by show 3 ≤ sizeLine; decide, fun lw hlw => ?_⟩
          have nlw : H lw = none := k_none J.k hlw hs J.s
          have hW : SqL K (upd H8 lw (.lst [.int 1, .int (1 + w1), .int (1 + w2)])) lw [.int 1, .int (1 + w1), .int (1 + w2)] := K74.SqL.of' upd_same
          replace J := J.keep (Keep.of (Ex.new (o := .lst [.int 1, .int (1 + w1), .int (1 + w2)]) hlw)) (J.s.new hlw) (na npn) (na npf)
          refine ⟨_, rfl, a, _, rfl, J.s, by decide, by decide, fun w3 H9 w30 w31 k9 s9 => ?_⟩
          replace J := J.keep k9 s9 (na npn) (na npf)
          replace hW : SqL K H9 lw [.int 1, .int (1 + w1), .int (1 + w2)] := K74.SqL.of' (keepA k9 upd_same (na nlw))
          have hw3 : w3 = 0 ∨ w3 = 1 ∨ w3 = 2 := by omega
          obtain ⟨wt, wt1, wti⟩ : ∃ wt : Int, 1 ≤ wt ∧ atI [V.int 1, .int (1 + w1), .int (1 + w2)] w3 = some (.int wt) := by
            rcases hw3 with rfl | rfl | rfl
            · exact ⟨1, by decide, atI_nat (j := 0) rfl⟩
            · exact ⟨1 + w1, by omega, atI_nat (j := 1) rfl⟩
            · exact ⟨1 + w2, by omega, atI_nat (j := 2) rfl⟩
          refine ⟨lw, _, _, .int wt, rfl, rfl, hW, wti, ?_⟩
          refine ⟨_, rfl, a, rfl, J.s, fun cc H10 cq k10 s10 hT10 cok => ?_⟩
          replace J := J.keep k10 s10 (na npn) (na npf)
          refine ⟨by show 3 ≤ sizeLine; decide, fun lc hlc => ?_⟩
          have nlc : H lc = none := k_none J.k hlc hs J.s
          have hC : (upd H10 lc (.lst [.non, .non, .ref cc])) lc = some (.lst [.non, .non, .ref cc]) := upd_same
          replace hT10 := (Ex.new (o := .lst [.non, .non, .ref cc]) hlc).t hT10
          replace J := J.keep (Keep.of (Ex.new (o := .lst [.non, .non, .ref cc]) hlc)) (J.s.new hlc) (na npn) (na npf)
          refine ⟨_, rfl, a, _, rfl, J.s, by decide, by decide, fun c3 H11 c30 c31 k11 s11 => ?_⟩
          replace hC := keepA k11 hC (na nlc)
          replace hT10 := (src_keepT k11 J.s).t hT10
          replace J := J.keep k11 s11 (na npn) (na npf)
          obtain ⟨cv, cap, hcv, hcap, hco⟩ : ∃ (cv : V) (cap : Option (Int × Int)), atI [V.non, .non, .ref cc] c3 = some cv ∧ CapR K H11 cv cap ∧ CapOk cap := by
            have hc3 : c3 = 0 ∨ c3 = 1 ∨ c3 = 2 := by omega
            rcases hc3 with rfl | rfl | rfl
            · exact ⟨.non, none, atI_nat (j := 0) rfl, rfl, trivial⟩
            · exact ⟨.non, none, atI_nat (j := 1) rfl, rfl, trivial⟩
            · exact ⟨.ref cc, some cq, atI_nat (j := 2) rfl, ⟨cc, rfl, hT10⟩, cok⟩
          refine ⟨lc, _, _, cv, rfl, rfl, K74.SqL.of' hC, hcv, ?_⟩
          refine ⟨_, rfl, .inl ⟨rfl, _, K74.SqL.of' J.hf⟩, _, rfl, _, rfl, _, rfl, _, rfl, by show 4 ≤ sizeLine; decide, fun t ht => ?_⟩
          have hfew := J.few
          have hR : RowR K (upd H11 t (.tup [.str y, .str pl, .int wt, cv])) (.ref t) ⟨y, pl, wt, cap⟩ := ⟨t, cv, rfl, K74.SqT.of' upd_same, K74.CapR.keep (Ex.new ht) hcap⟩
          replace J := J.keep (Keep.of (Ex.new (o := .tup [.str y, .str pl, .int wt, cv]) ht)) (J.s.new ht) (na npn) (na npf)
          refine ⟨pf, _, _, rfl, rfl, J.hf, by rw [J.rr.len, sizeLine_eq]; omega, ?_⟩
          refine ⟨ns', ys ++ [.ref t], rs ++ [⟨y, pl, wt, cap⟩], _, _, _, _, _, _, rfl, ⟨fun b o hb hn => ?_, ?_, ?_, upd_same, ?_, ?_, ?_, J.nd, ?_, ?_⟩, ?_, by omega⟩
          · rw [upd_ne fun e => by rw [e, npf] at hb; cases hb]
            exact J.k b o hb hn
          · obtain ⟨x, y, z, q⟩ := J.s
            exact ⟨x, y, z, by rw [upd_ne (na npf).symm]; exact q⟩
          · rw [upd_ne hne.symm]
            exact J.hn
          · exact (J.rr.snoc hR).keep (fun _ _ _ _ e h => h.keep e) (KeepT.lst J.hf)
          · have e : RR (rs ++ [⟨y, pl, wt, cap⟩]) = (y, pl) :: RR rs := by simp [RR, prs]
            rw [e]
            refine ⟨fun e => ?_, fun e => hy.2 (RR_names.mp e), (mab pl hpl).imp id RR_names.mpr, J.wf⟩
            have := hy.1.1
            rw [e] at this
            revert this
            decide
          · intro r hr
            rcases List.mem_append.mp hr with z | z
            · exact J.ok r z
            · rw [List.mem_singleton.mp z]
              exact ⟨hy.1, wt1, hco⟩
          · intro z hz
            refine ⟨(J.nok z hz).1, fun e => ?_⟩
            rw [nms, List.map_append] at e
            rcases List.mem_append.mp e with q | q
            · exact (J.nok z hz).2 q
            · rw [List.map_cons, List.map_nil] at q
              have q2 : z = y := List.mem_singleton.mp q
              exact hyn (q2 ▸ hz)
          · rw [List.length_append, List.length_singleton]
            omega
          · rw [List.length_append, List.length_singleton]
            omega
end
end K74
set_option Elab.async false
set_option linter.all false
set_option maxRecDepth 100000
set_option maxHeartbeats 4000000
namespace K74
open PySem PySem.Spec PyProof.Rows L2
section
variable {P : Program} {w : World} {K : PySem.W.Frag} {mg : Str → Option Value} {base : Heap}
abbrev N_l_kept_pages : List Str := ["_law_source_here", "_law_rows_here", "_law_left", "_law_found", "_law_name", "_law_row"]
abbrev P_l_kept_pages : List Str := ["_law_source_here", "_law_rows_here"]
theorem sc_l_kept_pages : FnScope N_l_kept_pages P_l_kept_pages (defScope s_l_kept_pages) := C8.fnScope_by (by decide +kernel)
theorem b_l_kept_pages {K : PySem.W.Frag} {fd : FuncData} (F : FunD K d_l_kept_pages.name d_l_kept_pages.qual d_l_kept_pages.params d_l_kept_pages.body d_l_kept_pages.scope (d_l_kept_pages.dvs K) (d_l_kept_pages.kws K) (He.fAd K d_l_kept_pages.at_) fd) : L2.Binds K fd P_l_kept_pages [] :=
  FunD.bindsN F fun _ _ _ _ _ _ us hl => match us, hl with | [_, _], _ => rfl
abbrev N_l_limits : List Str := ["_law_source_here", "_law_rows_here", "_law_left", "_law_found", "_law_name", "_law_row"]
abbrev P_l_limits : List Str := ["_law_source_here", "_law_rows_here"]
theorem sc_l_limits : FnScope N_l_limits P_l_limits (defScope s_l_limits) := C8.fnScope_by (by decide +kernel)
theorem b_l_limits {K : PySem.W.Frag} {fd : FuncData} (F : FunD K d_l_limits.name d_l_limits.qual d_l_limits.params d_l_limits.body d_l_limits.scope (d_l_limits.dvs K) (d_l_limits.kws K) (He.fAd K d_l_limits.at_) fd) : L2.Binds K fd P_l_limits [] :=
  FunD.bindsN F fun _ _ _ _ _ _ us hl => match us, hl with | [_, _], _ => rfl
abbrev N_l_most : List Str := ["_law_source_here", "_law_rows_here", "_law_left", "_law_found", "_law_name", "_law_row"]
abbrev P_l_most : List Str := ["_law_source_here", "_law_rows_here"]
theorem sc_l_most : FnScope N_l_most P_l_most (defScope s_l_most) := C8.fnScope_by (by decide +kernel)
theorem b_l_most {K : PySem.W.Frag} {fd : FuncData} (F : FunD K d_l_most.name d_l_most.qual d_l_most.params d_l_most.body d_l_most.scope (d_l_most.dvs K) (d_l_most.kws K) (He.fAd K d_l_most.at_) fd) : L2.Binds K fd P_l_most [] :=
  FunD.bindsN F fun _ _ _ _ _ _ us hl => match us, hl with | [_, _], _ => rfl
theorem NameOk.ne {x : Str} (h : NameOk x) : x ≠ "" := fun e => by
  have := h.1
  rw [e] at this
  revert this
  decide
theorem root_ok : PyData.strOk ("" : Str) = true := by decide +kernel
/-- names left and a dict of what was drawn -/
structure DrawInv (X : List Str) (B : Int) (a : Addr) (H H' : Hp) (pl pd : Addr) (ns fs : List Str) (F : Str → Int) : Prop where
  k : Keep [a] H H'
  s : SrcAt H' a
  hl : H' pl = some (.lst (ns.map V.str))
  hd : H' pd = some (.dK (fm fs F))
  nl : pl ≠ a
  npd : pd ≠ a
  hn : H pl = none
  hnd : H pd = none
  nd : (fs ++ ns).Nodup
  sub : ∀ y, y ∈ fs ++ ns → y ∈ X
  bd : ∀ y, y ∈ fs → 0 ≤ F y ∧ F y < B
def Drawn (X : List Str) (B : Int) (a : Addr) (H : Hp) (Q : VK) : Prop := ∀ p H' fs F, H p = none → Keep [a] H H' → SrcAt H' a → H' p = some (.dK (fm fs F)) → fs.Nodup → (∀ y, y ∈ fs → y ∈ X) → (∀ y, y ∈ fs → 0 ≤ F y ∧ F y < B) → Q (.ref p) H'
section
variable {X : List Str} {B : Int} {a : Addr} {H H' H2 : Hp} {pl pd : Addr} {ns fs : List Str} {F : Str → Int}
theorem DrawInv.keep (I : DrawInv X B a H H' pl pd ns fs F) (k : Keep [a] H' H2) (s : SrcAt H2 a) : DrawInv X B a H H2 pl pd ns fs F :=
  ⟨I.k.trans k, s, keepA k I.hl I.nl, keepA k I.hd I.npd, I.nl, I.npd, I.hn, I.hnd, I.nd, I.sub, I.bd⟩
theorem DrawInv.len (I : DrawInv X B a H H' pl pd ns fs F) (hX : X.length ≤ 9) : fs.length + ns.length ≤ 9 := by
  have := nodup_le I.nd I.sub
  rw [List.length_append] at this
  omega
theorem DrawInv.pop (I : DrawInv X B a H H' pl pd ns fs F) {y : Str} {ns' : List Str} (e4 : y ∈ ns) (e5 : ∀ z, z ∈ ns' → z ∈ ns) (e6 : ns.Nodup → ns'.Nodup ∧ y ∉ ns') : DrawInv X B a H (upd H' pl (.lst (ns'.map V.str))) pl pd ns' fs F ∧ y ∉ fs ++ ns' ∧ y ∈ X := by
  have nd := List.nodup_append.mp I.nd
  have hne : pd ≠ pl := fun e => by
    have h := I.hd
    rw [e, I.hl] at h
    cases h
  refine ⟨⟨fun b o hb hn => ?_, ?_, upd_same, by rw [upd_ne hne]; exact I.hd, I.nl, I.npd, I.hn, I.hnd, ?_, fun z hz => ?_, I.bd⟩, fun h => ?_, I.sub y (List.mem_append.mpr (.inr e4))⟩
  · rw [upd_ne fun e => by rw [e, I.hn] at hb; cases hb]
    exact I.k b o hb hn
  · obtain ⟨x, y, z, q⟩ := I.s
    exact ⟨x, y, z, by rw [upd_ne I.nl.symm]; exact q⟩
  · exact List.nodup_append.mpr ⟨nd.1, (e6 nd.2.1).1, fun u hu v hv => nd.2.2 u hu v (e5 v hv)⟩
  · rcases List.mem_append.mp hz with q | q
    · exact I.sub z (List.mem_append.mpr (.inl q))
    · exact I.sub z (List.mem_append.mpr (.inr (e5 z q)))
  · rcases List.mem_append.mp h with q | q
    · exact nd.2.2 y q y e4 rfl
    · exact (e6 nd.2.1).2 q
theorem DrawInv.put (I : DrawInv X B a H H' pl pd ns fs F) {y : Str} {v : Int} (hy : y ∉ fs ++ ns) (hX : y ∈ X) (h0 : 0 ≤ v) (h1 : v < B) : DrawInv X B a H (upd H' pd (.dK (putK (fm fs F) (Sum.inr y) (.int v)))) pl pd ns (fs ++ [y]) (setS F y v) := by
  have nd := List.nodup_append.mp I.nd
  have hne : pl ≠ pd := fun e => by
    have h := I.hd
    rw [← e, I.hl] at h
    cases h
  have hyf : y ∉ fs := fun h => hy (List.mem_append.mpr (.inl h))
  have hyn : y ∉ ns := fun h => hy (List.mem_append.mpr (.inr h))
  refine ⟨fun b o hb hn => ?_, ?_, by rw [upd_ne hne]; exact I.hl, by rw [upd_same, fm_putNew hyf], I.nl, I.npd, I.hn, I.hnd, ?_, fun z hz => ?_, fun z hz => ?_⟩
  · rw [upd_ne fun e => by rw [e, I.hnd] at hb; cases hb]
    exact I.k b o hb hn
  · obtain ⟨x, y, z, q⟩ := I.s
    exact ⟨x, y, z, by rw [upd_ne I.npd.symm]; exact q⟩
  · refine List.nodup_append.mpr ⟨List.nodup_append.mpr ⟨nd.1, by simp, fun u hu v hv => ?_⟩, nd.2.1, fun u hu v hv => ?_⟩
    · rw [List.mem_singleton.mp hv]
      intro e
      exact hyf (e ▸ hu)
    · rcases List.mem_append.mp hu with q | q
      · exact nd.2.2 u q v hv
      · rw [List.mem_singleton.mp q]
        intro e
        exact hyn (e ▸ hv)
  · rcases List.mem_append.mp hz with q | q
    · rcases List.mem_append.mp q with q | q
      · exact I.sub z (List.mem_append.mpr (.inl q))
      · rw [List.mem_singleton.mp q]
        exact hX
    · exact I.sub z (List.mem_append.mpr (.inr q))
  · unfold setS
    split
    · exact ⟨h0, h1⟩
    · rename_i c
      rcases List.mem_append.mp hz with q | q
      · exact I.bd z q
      · exact absurd (List.mem_singleton.mp q) c
end
def spKept (K : PySem.W.Frag) : Sp := fun vs H Q _ => ∃ (a pr : Addr) (rs : List RowD), vs = [.ref a, .ref pr] ∧ SrcAt H a ∧ RowsAt K H pr rs ∧ WfD rs ∧ Drawn (nms rs) (2 * 10 ^ 57) a H Q
def spLimits (K : PySem.W.Frag) : Sp := fun vs H Q _ => ∃ (a pr : Addr) (rs : List RowD), vs = [.ref a, .ref pr] ∧ SrcAt H a ∧ RowsAt K H pr rs ∧ WfD rs ∧ Drawn ("" :: nms rs) (2 * 10 ^ 57 + 40) a H Q
def spMost (K : PySem.W.Frag) : Sp := fun vs H Q _ => ∃ (a pr : Addr) (rs : List RowD), vs = [.ref a, .ref pr] ∧ SrcAt H a ∧ RowsAt K H pr rs ∧ WfD rs ∧ Drawn ("" :: nms rs) 10 a H Q
theorem ok_l_kept_pages (T : Tx K mg) : Has P w K mg base CX0 4 d_l_kept_pages P_l_kept_pages (spKept K) := by
  have H_l_next : Has P w K mg base CX0 2 d_l_next P_l_next spNext := ok_l_next T
  have H_l_many : Has P w K mg base CX0 3 d_l_many P_l_many spMany := ok_l_many T
  refine has0 T _ at_d_l_kept_pages sc_l_kept_pages (fun fd F => b_l_kept_pages F) (fun vs H Q E h => ?_) (fun cdv A outer s H vs Q E hr h => ?_)
  · obtain ⟨a, pr, rs, rfl, _⟩ := h
    rfl
  · obtain ⟨a, pr, rs, rfl, hs, hR, hw, k⟩ := h
    have hu := hu_of hr
    have na : ∀ {p : Addr}, H p = none → p ≠ a := fun hp e => by
      obtain ⟨x, y, z, q⟩ := hs
      rw [← e, hp] at q
      cases q
    obtain ⟨X, hX⟩ : ∃ X, X = nms rs := ⟨_, rfl⟩
    rw [← hX] at k
    have hXn : X.Nodup := by
      rw [hX]
      exact hw.nd
    have hXs : ∀ y, y ∈ X → PyData.strOk y = true := by
      intro y hy
      rw [hX] at hy
      exact (hw.nameOk hy).str
    have hXl : X.length ≤ 9 := by
      have := hw.few
      rw [hX]
      simp [nms]
      omega
    have nd := sc_l_kept_pages.nd
    refine ⟨_, (pss_cons (ps_par (i := 2) (j := 3) rfl nd rfl rfl (by decide) rfl rfl (pa_cons (pe_lc (own := [("_law_row", 5)]) (g := gName 5) (tt := tYes) rfl nd (pi_list (pv 1)) (blkOk_by (N := N_l_kept_pages) (sc := defScope s_l_kept_pages) (by decide +kernel)) (fun _ _ _ _ _ => pg_name (i := 5) nd rfl (Or.inl rfl)) (fun _ _ _ _ _ => pts_nil) (fun _ _ _ _ _ => (pe_ix (ixT K rfl) (pv 5) pe_int (fun _ _ => rfl)))) (pa_cons pe_dnewK pa_nil)) (by rfl))
        (pss_cons (ps_while PassesOwn.never (pt_cmpR (opNeD K rfl hr.units) (pv 2) (pe_lst pa_nil) (nomark _))
          (pss_cons (ps_set (i := 4) nd rfl (Or.inl rfl) (pe_bm PySem.F.plainAttrs_list PySem.F.slot_list_pop PySem.F.type_list_pop mt_popAt (pv 2) (pa_cons (pe_cl H_l_next hr (by first | decide | omega) T.g_l_next pass0 (pa_cons (pv 0) (pa_cons (pe_callB (callLen K rfl) (by rfl) T.z_len (by decide +kernel) (pa_cons (pv 2) pa_nil)) pa_nil))) pa_nil)))
            (pss_one (ps_if (pt_cmpR op_gt (pe_cl H_l_next hr (by first | decide | omega) T.g_l_next pass0 (pa_cons (pv 0) (pa_cons pe_int pa_nil))) pe_int (nomark _)) (pss_one (ps_dput hu (pv 3) (pv 4) (pe_cl H_l_many hr (by first | decide | omega) T.g_l_many pass0 (pa_cons (pv 0) pa_nil)) rfl)) pss_nil))))
        (pss_one (ps_ret (pv 3))))), ?_⟩
    refine ⟨_, rfl, pr, rfl, hR.sq, fun pl hpl => ?_⟩
    refine lc_rows hR hw.few (fun r => some (V.str r.nm)) hpl (fun i t r cv H' hb e hT hc Q q => ?_) (fun H3 e3 h3 => ?_)
    · exact ⟨rfl, _, rfl, t, _, _, _, rfl, rfl, hT, rfl, q _ (Ex.refl _)⟩
    rw [filterMap_some] at h3
    rw [show (rs.map fun r => V.str r.nm) = X.map V.str from by rw [hX, nms, List.map_map]; rfl] at h3
    refine fun pd hpd => ?_
    have npl : H pl = none := hpl
    have npd : H pd = none := e3.free hpd
    refine ⟨_, _, rfl, ?_⟩
    refine ⟨fun m σ H' => ∃ (ns fs : List Str) (F : Str → Int) (z4 z5 : Option V), σ = [some (.ref a), some (.ref pr), some (.ref pl), some (.ref pd), z4, z5] ∧ DrawInv X (2 * 10 ^ 57) a H H' pl pd ns fs F ∧ m = ns.length,
      ⟨_, X, [], (fun _ => 0), _, _, rfl, ⟨Keep.of (e3.trans (Ex.new hpd)), hs.ex (e3.trans (Ex.new hpd)), (Ex.new hpd) _ _ h3, upd_same, na npl, na npd, npl, npd, by simpa using hXn, fun y hy => hy, fun y hy => (by cases hy)⟩, rfl⟩, ?_⟩
    clear h3 hpd e3
    rintro m σ H' ⟨ns, fs, F, z4, z5, rfl, I, rfl⟩
    refine ⟨_, rfl, by show 0 ≤ sizeLine; decide, fun le hle => ?_⟩
    replace I := I.keep (Keep.of (Ex.new (o := .lst []) hle)) (I.s.new hle)
    refine ⟨.list (ns.map PyData.str), .list [], .lst (K74.SqL.of' I.hl) (dp_strs _), .lst (K74.SqL.of' upd_same) .nil, shaped_strsO (fun y hy => hXs y (I.sub y (List.mem_append.mpr (.inr hy)))), rfl, ?_⟩
    rw [eqv_strs_nil]
    obtain ⟨Ha, hHa⟩ : ∃ Ha, Ha = upd H' le (.lst []) := ⟨_, rfl⟩
    rw [← hHa] at I ⊢
    clear hHa hle
    refine ⟨_, rfl, ?_⟩
    by_cases c : ns = []
    · refine ifF (by simp [c]) ?_
      subst c
      have nd := I.nd
      have sub := I.sub
      rw [List.append_nil] at nd sub
      exact ⟨_, rfl, k pd Ha fs F npd I.k I.s I.hd nd sub I.bd⟩
    · refine ifT (by simp [c]) ?_
      have hlen : 0 < ns.length := List.length_pos_iff.mpr c
      have hle := I.len hXl
      refine ⟨fun σ' H2 => ∃ (ns' fs : List Str) (F : Str → Int) (z4 z5 : Option V), σ' = [some (.ref a), some (.ref pr), some (.ref pl), some (.ref pd), z4, z5] ∧ DrawInv X (2 * 10 ^ 57) a H H2 pl pd ns' fs F ∧ ns'.length < ns.length, ?_, ?_⟩
      · rintro σ' H2 ⟨ns', fs', F', y4, y5, rfl, I', hl'⟩
        exact ⟨_, hl', ns', fs', F', y4, y5, rfl, I', rfl⟩
      · refine ⟨_, rfl, .inl ⟨rfl, _, K74.SqL.of' I.hl⟩, _, rfl, _, rfl, pl, _, rfl, .inl (K74.SqL.of' I.hl), ?_⟩
        rw [List.length_map]
        refine ⟨a, _, rfl, I.s, by omega, by omega, fun r H1 r0 r1 k1 s1 => ?_⟩
        replace I := I.keep k1 s1
        obtain ⟨y, kx, ns', e1, e2, e3, e4, e5, e6, e7⟩ := pop_name r0 r1
        refine ⟨pl, _, r, kx, .str y, rfl, rfl, I.hl, by omega, by omega, e1, e2, ?_⟩
        rw [e3]
        obtain ⟨J, hy, hyX⟩ := I.pop e4 e5 e6
        have hl' : ns'.length < ns.length := by omega
        obtain ⟨Hb, hHb⟩ : ∃ Hb, Hb = upd H1 pl (.lst (ns'.map V.str)) := ⟨_, rfl⟩
        rw [← hHb] at J ⊢
        clear hHb I e1 e2 e3 e4 e5 e6 e7
        refine ⟨_, rfl, a, _, rfl, J.s, by decide, by decide, fun r2 H4 r20 r21 k4 s4 => ?_⟩
        replace J := J.keep k4 s4
        have hfl := J.len hXl
        have hput : (fm fs F).length < sizeLine := by
          rw [fm_len, sizeLine_eq]
          omega
        refine ⟨_, _, rfl, rfl, _, rfl, ?_⟩
        by_cases c2 : r2 > 0
        · refine ifT (decide_eq_true c2) ?_
          refine ⟨_, rfl, a, rfl, J.s, fun n H5 k5 s5 n0 n1 => ?_⟩
          replace J := J.keep k5 s5
          exact ⟨_, rfl, _, rfl, pd, _, rfl, DPut.k (k := Sum.inr y) J.hd hput, ns', fs ++ [y], _, _, _, rfl, J.put hy hyX (by omega) (by omega), hl'⟩
        · exact ifF (decide_eq_false c2) ⟨ns', fs, F, _, _, rfl, J, hl'⟩
theorem ok_l_limits (T : Tx K mg) : Has P w K mg base CX0 4 d_l_limits P_l_limits (spLimits K) := by
  have H_l_next : Has P w K mg base CX0 2 d_l_next P_l_next spNext := ok_l_next T
  have H_l_many : Has P w K mg base CX0 3 d_l_many P_l_many spMany := ok_l_many T
  refine has0 T _ at_d_l_limits sc_l_limits (fun fd F => b_l_limits F) (fun vs H Q E h => ?_) (fun cdv A outer s H vs Q E hr h => ?_)
  · obtain ⟨a, pr, rs, rfl, _⟩ := h
    rfl
  · obtain ⟨a, pr, rs, rfl, hs, hR, hw, k⟩ := h
    have hu := hu_of hr
    have na : ∀ {p : Addr}, H p = none → p ≠ a := fun hp e => by
      obtain ⟨x, y, z, q⟩ := hs
      rw [← e, hp] at q
      cases q
    obtain ⟨X, hX⟩ : ∃ X, X = ("" : Str) :: nms rs := ⟨_, rfl⟩
    rw [← hX] at k
    have hXn : X.Nodup := by
      rw [hX]
      exact List.nodup_cons.mpr ⟨fun h => (hw.nameOk h).ne rfl, hw.nd⟩
    have hXs : ∀ y, y ∈ X → PyData.strOk y = true := by
      intro y hy
      rw [hX] at hy
      rcases List.mem_cons.mp hy with rfl | z
      · exact root_ok
      · exact (hw.nameOk z).str
    have hXl : X.length ≤ 9 := by
      have := hw.few
      rw [hX]
      simp [nms]
      omega
    have nd := sc_l_limits.nd
    refine ⟨_, (pss_cons (ps_par (i := 2) (j := 3) rfl nd rfl rfl (by decide) rfl rfl (pa_cons (pe_op op_cat (pe_lst (pa_cons pe_str pa_nil)) (pe_lc (own := [("_law_row", 5)]) (g := gName 5) (tt := tYes) rfl nd (pi_list (pv 1)) (blkOk_by (N := N_l_limits) (sc := defScope s_l_limits) (by decide +kernel)) (fun _ _ _ _ _ => pg_name (i := 5) nd rfl (Or.inl rfl)) (fun _ _ _ _ _ => pts_nil) (fun _ _ _ _ _ => (pe_ix (ixT K rfl) (pv 5) pe_int (fun _ _ => rfl))))) (pa_cons pe_dnewK pa_nil)) (by rfl))
        (pss_cons (ps_while PassesOwn.never (pt_cmpR (opNeD K rfl hr.units) (pv 2) (pe_lst pa_nil) (nomark _))
          (pss_cons (ps_set (i := 4) nd rfl (Or.inl rfl) (pe_bm PySem.F.plainAttrs_list PySem.F.slot_list_pop PySem.F.type_list_pop mt_popAt (pv 2) (pa_cons (pe_cl H_l_next hr (by first | decide | omega) T.g_l_next pass0 (pa_cons (pv 0) (pa_cons (pe_callB (callLen K rfl) (by rfl) T.z_len (by decide +kernel) (pa_cons (pv 2) pa_nil)) pa_nil))) pa_nil)))
            (pss_one (ps_if (pt_cmpR op_gt (pe_cl H_l_next hr (by first | decide | omega) T.g_l_next pass0 (pa_cons (pv 0) (pa_cons pe_int pa_nil))) pe_int (nomark _)) (pss_one (ps_dput hu (pv 3) (pv 4) (pe_op op_add (pe_cl H_l_many hr (by first | decide | omega) T.g_l_many pass0 (pa_cons (pv 0) pa_nil)) (pe_cl H_l_next hr (by first | decide | omega) T.g_l_next pass0 (pa_cons (pv 0) (pa_cons pe_int pa_nil)))) rfl)) pss_nil))))
        (pss_one (ps_ret (pv 3))))), ?_⟩
    refine ⟨by show 1 ≤ sizeLine; decide, fun l0 hl0 => ?_⟩
    refine ⟨_, rfl, pr, rfl, (hR.ex (Ex.new hl0)).sq, fun D hD => ?_⟩
    refine lc_rows (hR.ex (Ex.new hl0)) hw.few (fun r => some (V.str r.nm)) hD (fun i t r cv H' hb e hT hc Q q => ?_) (fun H2 e2 h2 => ?_)
    · exact ⟨rfl, _, rfl, t, _, _, _, rfl, rfl, hT, rfl, q _ (Ex.refl _)⟩
    rw [filterMap_some] at h2
    refine ⟨l0, D, _, _, rfl, rfl, e2 _ _ upd_same, h2, by rw [List.length_map, sizeLine_eq]; have := hw.few; show 1 + _ ≤ _; omega, fun pl hpl => ?_⟩
    have e2 := (Ex.new (o := .lst [.str ""]) hl0).trans e2
    rw [show ([V.str (Str.ofString "")] ++ rs.map fun r => V.str r.nm) = X.map V.str from by rw [hX, List.map_cons, nms, List.map_map]; rfl]
    refine fun pd hpd => ?_
    have e3 := e2.trans (Ex.new (o := .lst (X.map V.str)) hpl)
    have h3 : (upd H2 pl (.lst (X.map V.str))) pl = some (.lst (X.map V.str)) := upd_same
    obtain ⟨H3, hH3⟩ : ∃ H3, H3 = upd H2 pl (.lst (X.map V.str)) := ⟨_, rfl⟩
    rw [← hH3] at h3 e3 hpd ⊢
    clear hH3
    have npl : H pl = none := e2.free hpl
    have npd : H pd = none := e3.free hpd
    refine ⟨_, _, rfl, ?_⟩
    refine ⟨fun m σ H' => ∃ (ns fs : List Str) (F : Str → Int) (z4 z5 : Option V), σ = [some (.ref a), some (.ref pr), some (.ref pl), some (.ref pd), z4, z5] ∧ DrawInv X (2 * 10 ^ 57 + 40) a H H' pl pd ns fs F ∧ m = ns.length,
      ⟨_, X, [], (fun _ => 0), _, _, rfl, ⟨Keep.of (e3.trans (Ex.new hpd)), hs.ex (e3.trans (Ex.new hpd)), (Ex.new hpd) _ _ h3, upd_same, na npl, na npd, npl, npd, by simpa using hXn, fun y hy => hy, fun y hy => (by cases hy)⟩, rfl⟩, ?_⟩
    clear h3 hpd e3
    rintro m σ H' ⟨ns, fs, F, z4, z5, rfl, I, rfl⟩
    refine ⟨_, rfl, by show 0 ≤ sizeLine; decide, fun le hle => ?_⟩
    replace I := I.keep (Keep.of (Ex.new (o := .lst []) hle)) (I.s.new hle)
    refine ⟨.list (ns.map PyData.str), .list [], .lst (K74.SqL.of' I.hl) (dp_strs _), .lst (K74.SqL.of' upd_same) .nil, shaped_strsO (fun y hy => hXs y (I.sub y (List.mem_append.mpr (.inr hy)))), rfl, ?_⟩
    rw [eqv_strs_nil]
    obtain ⟨Ha, hHa⟩ : ∃ Ha, Ha = upd H' le (.lst []) := ⟨_, rfl⟩
    rw [← hHa] at I ⊢
    clear hHa hle
    refine ⟨_, rfl, ?_⟩
    by_cases c : ns = []
    · refine ifF (by simp [c]) ?_
      subst c
      have nd := I.nd
      have sub := I.sub
      rw [List.append_nil] at nd sub
      exact ⟨_, rfl, k pd Ha fs F npd I.k I.s I.hd nd sub I.bd⟩
    · refine ifT (by simp [c]) ?_
      have hlen : 0 < ns.length := List.length_pos_iff.mpr c
      have hle := I.len hXl
      refine ⟨fun σ' H2 => ∃ (ns' fs : List Str) (F : Str → Int) (z4 z5 : Option V), σ' = [some (.ref a), some (.ref pr), some (.ref pl), some (.ref pd), z4, z5] ∧ DrawInv X (2 * 10 ^ 57 + 40) a H H2 pl pd ns' fs F ∧ ns'.length < ns.length, ?_, ?_⟩
      · rintro σ' H2 ⟨ns', fs', F', y4, y5, rfl, I', hl'⟩
        exact ⟨_, hl', ns', fs', F', y4, y5, rfl, I', rfl⟩
      · refine ⟨_, rfl, .inl ⟨rfl, _, K74.SqL.of' I.hl⟩, _, rfl, _, rfl, pl, _, rfl, .inl (K74.SqL.of' I.hl), ?_⟩
        rw [List.length_map]
        refine ⟨a, _, rfl, I.s, by omega, by omega, fun r H1 r0 r1 k1 s1 => ?_⟩
        replace I := I.keep k1 s1
        obtain ⟨y, kx, ns', e1, e2, e3, e4, e5, e6, e7⟩ := pop_name r0 r1
        refine ⟨pl, _, r, kx, .str y, rfl, rfl, I.hl, by omega, by omega, e1, e2, ?_⟩
        rw [e3]
        obtain ⟨J, hy, hyX⟩ := I.pop e4 e5 e6
        have hl' : ns'.length < ns.length := by omega
        obtain ⟨Hb, hHb⟩ : ∃ Hb, Hb = upd H1 pl (.lst (ns'.map V.str)) := ⟨_, rfl⟩
        rw [← hHb] at J ⊢
        clear hHb I e1 e2 e3 e4 e5 e6 e7
        refine ⟨_, rfl, a, _, rfl, J.s, by decide, by decide, fun r2 H4 r20 r21 k4 s4 => ?_⟩
        replace J := J.keep k4 s4
        have hfl := J.len hXl
        have hput : (fm fs F).length < sizeLine := by
          rw [fm_len, sizeLine_eq]
          omega
        refine ⟨_, _, rfl, rfl, _, rfl, ?_⟩
        by_cases c2 : r2 > 0
        · refine ifT (decide_eq_true c2) ?_
          refine ⟨_, rfl, a, rfl, J.s, fun n H5 k5 s5 n0 n1 => ⟨_, rfl, a, _, rfl, s5, by decide, by decide, fun r3 H6 r30 r31 k6 s6 => ⟨_, _, rfl, rfl, ?_⟩⟩⟩
          replace J := J.keep (k5.trans k6) s6
          exact ⟨_, rfl, _, rfl, pd, _, rfl, DPut.k (k := Sum.inr y) J.hd hput, ns', fs ++ [y], _, _, _, rfl, J.put hy hyX (by omega) (by omega), hl'⟩
        · exact ifF (decide_eq_false c2) ⟨ns', fs, F, _, _, rfl, J, hl'⟩
theorem ok_l_most (T : Tx K mg) : Has P w K mg base CX0 4 d_l_most P_l_most (spMost K) := by
  have H_l_next : Has P w K mg base CX0 2 d_l_next P_l_next spNext := ok_l_next T
  have H_l_many : Has P w K mg base CX0 3 d_l_many P_l_many spMany := ok_l_many T
  refine has0 T _ at_d_l_most sc_l_most (fun fd F => b_l_most F) (fun vs H Q E h => ?_) (fun cdv A outer s H vs Q E hr h => ?_)
  · obtain ⟨a, pr, rs, rfl, _⟩ := h
    rfl
  · obtain ⟨a, pr, rs, rfl, hs, hR, hw, k⟩ := h
    have hu := hu_of hr
    have na : ∀ {p : Addr}, H p = none → p ≠ a := fun hp e => by
      obtain ⟨x, y, z, q⟩ := hs
      rw [← e, hp] at q
      cases q
    obtain ⟨X, hX⟩ : ∃ X, X = ("" : Str) :: nms rs := ⟨_, rfl⟩
    rw [← hX] at k
    have hXn : X.Nodup := by
      rw [hX]
      exact List.nodup_cons.mpr ⟨fun h => (hw.nameOk h).ne rfl, hw.nd⟩
    have hXs : ∀ y, y ∈ X → PyData.strOk y = true := by
      intro y hy
      rw [hX] at hy
      rcases List.mem_cons.mp hy with rfl | z
      · exact root_ok
      · exact (hw.nameOk z).str
    have hXl : X.length ≤ 9 := by
      have := hw.few
      rw [hX]
      simp [nms]
      omega
    have nd := sc_l_most.nd
    refine ⟨_, (pss_cons (ps_par (i := 2) (j := 3) rfl nd rfl rfl (by decide) rfl rfl (pa_cons (pe_op op_cat (pe_lst (pa_cons pe_str pa_nil)) (pe_lc (own := [("_law_row", 5)]) (g := gName 5) (tt := tYes) rfl nd (pi_list (pv 1)) (blkOk_by (N := N_l_most) (sc := defScope s_l_most) (by decide +kernel)) (fun _ _ _ _ _ => pg_name (i := 5) nd rfl (Or.inl rfl)) (fun _ _ _ _ _ => pts_nil) (fun _ _ _ _ _ => (pe_ix (ixT K rfl) (pv 5) pe_int (fun _ _ => rfl))))) (pa_cons pe_dnewK pa_nil)) (by rfl))
        (pss_cons (ps_while PassesOwn.never (pt_cmpR (opNeD K rfl hr.units) (pv 2) (pe_lst pa_nil) (nomark _))
          (pss_cons (ps_set (i := 4) nd rfl (Or.inl rfl) (pe_bm PySem.F.plainAttrs_list PySem.F.slot_list_pop PySem.F.type_list_pop mt_popAt (pv 2) (pa_cons (pe_cl H_l_next hr (by first | decide | omega) T.g_l_next pass0 (pa_cons (pv 0) (pa_cons (pe_callB (callLen K rfl) (by rfl) T.z_len (by decide +kernel) (pa_cons (pv 2) pa_nil)) pa_nil))) pa_nil)))
            (pss_one (ps_if (pt_cmpR op_eq (pe_cl H_l_next hr (by first | decide | omega) T.g_l_next pass0 (pa_cons (pv 0) (pa_cons pe_int pa_nil))) pe_int (nomark _)) (pss_one (ps_dput hu (pv 3) (pv 4) (pe_ix (ixL K rfl) (pe_lst (pa_cons pe_int (pa_cons pe_int (pa_cons pe_int (pa_cons pe_int (pa_cons pe_int pa_nil)))))) (pe_cl H_l_next hr (by first | decide | omega) T.g_l_next pass0 (pa_cons (pv 0) (pa_cons pe_int pa_nil))) (fun _ _ => rfl)) rfl)) pss_nil))))
        (pss_one (ps_ret (pv 3))))), ?_⟩
    refine ⟨by show 1 ≤ sizeLine; decide, fun l0 hl0 => ?_⟩
    refine ⟨_, rfl, pr, rfl, (hR.ex (Ex.new hl0)).sq, fun D hD => ?_⟩
    refine lc_rows (hR.ex (Ex.new hl0)) hw.few (fun r => some (V.str r.nm)) hD (fun i t r cv H' hb e hT hc Q q => ?_) (fun H2 e2 h2 => ?_)
    · exact ⟨rfl, _, rfl, t, _, _, _, rfl, rfl, hT, rfl, q _ (Ex.refl _)⟩
    rw [filterMap_some] at h2
    refine ⟨l0, D, _, _, rfl, rfl, e2 _ _ upd_same, h2, by rw [List.length_map, sizeLine_eq]; have := hw.few; show 1 + _ ≤ _; omega, fun pl hpl => ?_⟩
    have e2 := (Ex.new (o := .lst [.str ""]) hl0).trans e2
    rw [show ([V.str (Str.ofString "")] ++ rs.map fun r => V.str r.nm) = X.map V.str from by rw [hX, List.map_cons, nms, List.map_map]; rfl]
    refine fun pd hpd => ?_
    have e3 := e2.trans (Ex.new (o := .lst (X.map V.str)) hpl)
    have h3 : (upd H2 pl (.lst (X.map V.str))) pl = some (.lst (X.map V.str)) := upd_same
    obtain ⟨H3, hH3⟩ : ∃ H3, H3 = upd H2 pl (.lst (X.map V.str)) := ⟨_, rfl⟩
    rw [← hH3] at h3 e3 hpd ⊢
    clear hH3
    have npl : H pl = none := e2.free hpl
    have npd : H pd = none := e3.free hpd
    refine ⟨_, _, rfl, ?_⟩
    refine ⟨fun m σ H' => ∃ (ns fs : List Str) (F : Str → Int) (z4 z5 : Option V), σ = [some (.ref a), some (.ref pr), some (.ref pl), some (.ref pd), z4, z5] ∧ DrawInv X (10) a H H' pl pd ns fs F ∧ m = ns.length,
      ⟨_, X, [], (fun _ => 0), _, _, rfl, ⟨Keep.of (e3.trans (Ex.new hpd)), hs.ex (e3.trans (Ex.new hpd)), (Ex.new hpd) _ _ h3, upd_same, na npl, na npd, npl, npd, by simpa using hXn, fun y hy => hy, fun y hy => (by cases hy)⟩, rfl⟩, ?_⟩
    clear h3 hpd e3
    rintro m σ H' ⟨ns, fs, F, z4, z5, rfl, I, rfl⟩
    refine ⟨_, rfl, by show 0 ≤ sizeLine; decide, fun le hle => ?_⟩
    replace I := I.keep (Keep.of (Ex.new (o := .lst []) hle)) (I.s.new hle)
    refine ⟨.list (ns.map PyData.str), .list [], .lst (K74.SqL.of' I.hl) (dp_strs _), .lst (K74.SqL.of' upd_same) .nil, shaped_strsO (fun y hy => hXs y (I.sub y (List.mem_append.mpr (.inr hy)))), rfl, ?_⟩
    rw [eqv_strs_nil]
    obtain ⟨Ha, hHa⟩ : ∃ Ha, Ha = upd H' le (.lst []) := ⟨_, rfl⟩
    rw [← hHa] at I ⊢
    clear hHa hle
    refine ⟨_, rfl, ?_⟩
    by_cases c : ns = []
    · refine ifF (by simp [c]) ?_
      subst c
      have nd := I.nd
      have sub := I.sub
      rw [List.append_nil] at nd sub
      exact ⟨_, rfl, k pd Ha fs F npd I.k I.s I.hd nd sub I.bd⟩
    · refine ifT (by simp [c]) ?_
      have hlen : 0 < ns.length := List.length_pos_iff.mpr c
      have hle := I.len hXl
      refine ⟨fun σ' H2 => ∃ (ns' fs : List Str) (F : Str → Int) (z4 z5 : Option V), σ' = [some (.ref a), some (.ref pr), some (.ref pl), some (.ref pd), z4, z5] ∧ DrawInv X (10) a H H2 pl pd ns' fs F ∧ ns'.length < ns.length, ?_, ?_⟩
      · rintro σ' H2 ⟨ns', fs', F', y4, y5, rfl, I', hl'⟩
        exact ⟨_, hl', ns', fs', F', y4, y5, rfl, I', rfl⟩
      · refine ⟨_, rfl, .inl ⟨rfl, _, K74.SqL.of' I.hl⟩, _, rfl, _, rfl, pl, _, rfl, .inl (K74.SqL.of' I.hl), ?_⟩
        rw [List.length_map]
        refine ⟨a, _, rfl, I.s, by omega, by omega, fun r H1 r0 r1 k1 s1 => ?_⟩
        replace I := I.keep k1 s1
        obtain ⟨y, kx, ns', e1, e2, e3, e4, e5, e6, e7⟩ := pop_name r0 r1
        refine ⟨pl, _, r, kx, .str y, rfl, rfl, I.hl, by omega, by omega, e1, e2, ?_⟩
        rw [e3]
        obtain ⟨J, hy, hyX⟩ := I.pop e4 e5 e6
        have hl' : ns'.length < ns.length := by omega
        obtain ⟨Hb, hHb⟩ : ∃ Hb, Hb = upd H1 pl (.lst (ns'.map V.str)) := ⟨_, rfl⟩
        rw [← hHb] at J ⊢
        clear hHb I e1 e2 e3 e4 e5 e6 e7
        refine ⟨_, rfl, a, _, rfl, J.s, by decide, by decide, fun r2 H4 r20 r21 k4 s4 => ?_⟩
        replace J := J.keep k4 s4
        have hfl := J.len hXl
        have hput : (fm fs F).length < sizeLine := by
          rw [fm_len, sizeLine_eq]
          omega
        refine ⟨rfl, _, rfl, ?_⟩
        by_cases c2 : r2 = 0
        · refine ifT (by simp [c2]) ?_
          refine ⟨by show 5 ≤ sizeLine; decide, fun l5 hl5 => ?_⟩
          have hL : (upd H4 l5 (.lst [.int 1, .int 2, .int 3, .int 5, .int 0])) l5 = some (.lst [.int 1, .int 2, .int 3, .int 5, .int 0]) := upd_same
          have n5 : H l5 = none := k_none J.k hl5 hs J.s
          replace J := J.keep (Keep.of (Ex.new (o := .lst [.int 1, .int 2, .int 3, .int 5, .int 0]) hl5)) (J.s.new hl5)
          refine ⟨_, rfl, a, _, rfl, J.s, by decide, by decide, fun r3 H6 r30 r31 k6 s6 => ?_⟩
          replace J := J.keep k6 s6
          replace hL := keepA k6 hL (na n5)
          obtain ⟨v, v0, v1, hv⟩ : ∃ v : Int, 0 ≤ v ∧ v < 10 ∧ atI [V.int 1, .int 2, .int 3, .int 5, .int 0] r3 = some (.int v) := by
            have h5 : r3 = 0 ∨ r3 = 1 ∨ r3 = 2 ∨ r3 = 3 ∨ r3 = 4 := by omega
            rcases h5 with rfl | rfl | rfl | rfl | rfl
            · exact ⟨1, by decide, by decide, atI_nat (j := 0) rfl⟩
            · exact ⟨2, by decide, by decide, atI_nat (j := 1) rfl⟩
            · exact ⟨3, by decide, by decide, atI_nat (j := 2) rfl⟩
            · exact ⟨5, by decide, by decide, atI_nat (j := 3) rfl⟩
            · exact ⟨0, by decide, by decide, atI_nat (j := 4) rfl⟩
          refine ⟨l5, _, _, .int v, rfl, rfl, K74.SqL.of' hL, hv, ?_⟩
          exact ⟨_, rfl, _, rfl, pd, _, rfl, DPut.k (k := Sum.inr y) J.hd hput, ns', fs ++ [y], _, _, _, rfl, J.put hy hyX (by omega) (by omega), hl'⟩
        · exact ifF (by simp [c2]) ⟨ns', fs, F, _, _, rfl, J, hl'⟩
end
end K74
set_option Elab.async false
set_option linter.all false
set_option maxRecDepth 100000
set_option maxHeartbeats 4000000
/-! min(xs, default=None) of whole numbers. -/
namespace K74
open PySem PySem.Spec PyProof.Rows L2
open PySem.W (HoldAll minOf DatumOrd min_list_datum_default)
def rMinD (K : PySem.W.Frag) : List V → List V → Hp → VK → Prop := fun vs zs H Q => ∃ (a : Addr) (ns : List Int), vs = [V.ref a] ∧ zs = [V.non] ∧ SqL K H a (ns.map V.int) ∧ (ns = [] → Q .non H) ∧ (∀ m, m ∈ ns → (∀ y, y ∈ ns → m ≤ y) → Q (.int m) H)
theorem holdAll_ints {h : Heap} {vs : List Value} {ns : List Int} (i : PyProof.Rows.IntsAre vs ns) : HoldAll h vs ns := by
  induction i with
  | nil => exact HoldAll.nil
  | cons n t _ ih => exact HoldAll.cons ⟨_, Reads.int n t⟩ ih
theorem minOf_int (x : Int) (xs : List Int) : minOf x xs ∈ x :: xs ∧ ∀ y, y ∈ x :: xs → minOf x xs ≤ y := by
  induction xs generalizing x with
  | nil => simp [minOf]
  | cons y ys ih =>
    have e : minOf x (y :: ys) = minOf (if DatumOrd.lt y x = true then y else x) ys := rfl
    have hl : (DatumOrd.lt y x = true) ↔ y < x := by
      show decide (y < x) = true ↔ _
      simp
    rw [e]
    obtain ⟨h1, h2⟩ := ih (if DatumOrd.lt y x = true then y else x)
    refine ⟨?_, fun z hz => ?_⟩
    · rcases List.mem_cons.mp h1 with q | q
      · rw [q]
        split <;> simp
      · simp [q]
    · have h3 := h2 _ List.mem_cons_self
      have hx : (if DatumOrd.lt y x = true then y else x) ≤ x ∧ (if DatumOrd.lt y x = true then y else x) ≤ y := by
        by_cases c : DatumOrd.lt y x = true
        · rw [if_pos c]
          have := hl.mp c
          omega
        · rw [if_neg c]
          have h4 : ¬ y < x := fun z => c (hl.mpr z)
          omega
      rcases List.mem_cons.mp hz with q | q
      · subst q
        exact Int.le_trans h3 hx.1
      · rcases List.mem_cons.mp q with q | q
        · subst q
          exact Int.le_trans h3 hx.2
        · exact h2 z (List.mem_cons_of_mem _ q)
section
variable {X : Cx}
theorem cr_minD (K : PySem.W.Frag) (hK : X.K = K) (hc : X.calm = true) (hu : X.A.units + 64 < cLine) : CallRK X (.builtin "min") [Str.ofString "default"] (rMinD K) := by
  subst hK
  intro pins s σ H vs zs us ws Q I r rz h
  obtain ⟨a, ns, rfl, rfl, hs, q1, q2⟩ := h
  obtain ⟨its, rv, hl, _⟩ := I.list hs
  rw [Vals.ref1 r]
  obtain ⟨w1, rfl, e1⟩ := vals1 rz
  obtain rfl : w1 = Value.none := e1
  refine min_list_datum_default (α := Int) (xs := ns) (I.ok.hd hc) hl.isList (holdAll_ints rv.ints) (by show X.A.units + 1 + 0 < cLine; omega) (fun e h' tk hk => ⟨.non, H, I.kept hk, rfl, q1 e⟩) fun y ys i v h' tk e hi hv hk => ?_
  subst e
  obtain ⟨m1, m2⟩ := minOf_int y ys
  obtain ⟨bs, hv⟩ := hv
  cases hv
  exact ⟨.int _, H, I.kept hk, ⟨_, rfl⟩, q2 _ m1 m2⟩
end
end K74
set_option Elab.async false
set_option linter.all false
set_option maxRecDepth 100000
set_option maxHeartbeats 4000000
/-! A machine: plain data, what stands for it. -/
namespace K74
open PySem PySem.Spec PyProof.Rows L2
/-- a machine's addresses -/
structure MA where
  me : Addr
  dx : Addr
  tr : Addr
  mt : Addr
  mp : Addr
  sf : Addr
  pl : Addr
  sz : Addr
/-- what never changes -/
structure MC where
  rs : List RowD
  tn : List Str
  tS : Str → Int
  pn : List Str
  pS : Str → Int
  sn : List Str
  sS : Str → Int
/-- what changes -/
structure MV where
  ps : List (Int × Str)
  many : Int
  S : Str → Int
def pk (ps : List (Int × Str)) : List (Key × V) := ps.map fun p => (Sum.inl p.1, V.str p.2)
structure McOk (c : MC) : Prop where
  wf : WfD c.rs
  tn : ∀ n, n ∈ c.tn → (n = "" ∨ n ∈ nms c.rs) ∧ 0 ≤ c.tS n
  pn : ∀ n, n ∈ c.pn → (n = "" ∨ n ∈ nms c.rs) ∧ 0 ≤ c.pS n
  sn : ∀ n, n ∈ c.sn → n ∈ nms c.rs ∧ 0 ≤ c.sS n
structure MvOk (c : MC) (v : MV) : Prop where
  nd : (v.ps.map (·.1)).Nodup
  ls : ∀ p, p ∈ v.ps → p.2 ∈ lvs c.rs
  lt : ∀ p, p ∈ v.ps → p.1 < v.many
  ge : 0 ≤ v.many
  few : v.ps.length ≤ 1000
  pos : ∀ n, 0 ≤ v.S n
  zero : ∀ n, n ∉ lvs c.rs → v.S n = 0
  small : ∀ n, v.S n < 10 ^ 60
def mF (a : MA) (n : Int) : List (Str × V) := [("tree", .ref a.tr), ("most_tasks", .ref a.mt), ("most_pages", .ref a.mp), ("safe", .ref a.sf), ("places", .ref a.pl), ("many", .int n), ("sizes", .ref a.sz)]
/-- the machine stands at H; what never changes stands in S0 -/
structure MSt (K : PySem.W.Frag) (S0 H : Hp) (a : MA) (c : MC) (v : MV) : Prop where
  ex : Ex S0 H
  tree : TreeAt K S0 a.tr c.rs
  mt : S0 a.mt = some (.dK (fm c.tn c.tS))
  mp : S0 a.mp = some (.dK (fm c.pn c.pS))
  sf : S0 a.sf = some (.dK (fm c.sn c.sS))
  nme : S0 a.me = none
  npl : S0 a.pl = none
  nsz : S0 a.sz = none
  ne : a.pl ≠ a.sz
  me : H a.me = some (.ins (He.ga K "Machine") a.dx (mF a v.many))
  pl : H a.pl = some (.dK (pk v.ps))
  sz : H a.sz = some (.dK (fm (nms c.rs) v.S))
  ok : McOk c
  vok : MvOk c v
section
variable {K : PySem.W.Frag} {S0 H H' : Hp} {a : MA} {c : MC} {v : MV}
theorem MSt.to (h : MSt K S0 H a c v) (e : Ex H H') : MSt K S0 H' a c v := ⟨h.ex.trans e, h.tree, h.mt, h.mp, h.sf, h.nme, h.npl, h.nsz, h.ne, e _ _ h.me, e _ _ h.pl, e _ _ h.sz, h.ok, h.vok⟩
theorem MSt.tr (h : MSt K S0 H a c v) : TreeAt K H a.tr c.rs := h.tree.ex h.ex
theorem MSt.Mp (h : MSt K S0 H a c v) : H a.mp = some (.dK (fm c.pn c.pS)) := h.ex _ _ h.mp
theorem MSt.Mt (h : MSt K S0 H a c v) : H a.mt = some (.dK (fm c.tn c.tS)) := h.ex _ _ h.mt
theorem MSt.Sf (h : MSt K S0 H a c v) : H a.sf = some (.dK (fm c.sn c.sS)) := h.ex _ _ h.sf
theorem MSt.nmp (h : MSt K S0 H a c v) : a.me ≠ a.pl := fun e => by
  have := h.me
  rw [e, h.pl] at this
  cases this
theorem MSt.nms (h : MSt K S0 H a c v) : a.me ≠ a.sz := fun e => by
  have := h.me
  rw [e, h.sz] at this
  cases this
/-- new sizes -/
theorem MSt.size (h : MSt K S0 H a c v) {S : Str → Int} (ok : MvOk c { v with S := S }) : MSt K S0 (upd H a.sz (.dK (fm (K74.nms c.rs) S))) a c { v with S := S } :=
  ⟨h.ex.mut h.nsz, h.tree, h.mt, h.mp, h.sf, h.nme, h.npl, h.nsz, h.ne, by rw [upd_ne h.nms]; exact h.me, by rw [upd_ne h.ne]; exact h.pl, upd_same, h.ok, ok⟩
theorem MSt.place (h : MSt K S0 H a c v) {ps : List (Int × Str)} (ok : MvOk c { v with ps := ps }) : MSt K S0 (upd H a.pl (.dK (pk ps))) a c { v with ps := ps } :=
  ⟨h.ex.mut h.npl, h.tree, h.mt, h.mp, h.sf, h.nme, h.npl, h.nsz, h.ne, by rw [upd_ne h.nmp]; exact h.me, upd_same, by rw [upd_ne (Ne.symm h.ne)]; exact h.sz, h.ok, ok⟩
end
/-! ### places -/
def lkp (ps : List (Int × Str)) (t : Int) : Option Str := (ps.find? fun p => decide (p.1 = t)).map (·.2)
theorem pk_val (ps : List (Int × Str)) (t : Int) : valV (pk ps) (Sum.inl t) = (lkp ps t).map V.str := by
  induction ps with
  | nil => rfl
  | cons p ps ih =>
    show valV ((Sum.inl p.1, V.str p.2) :: pk ps) _ = _
    by_cases e : p.1 = t
    · rw [valV_pos (by rw [e])]
      simp [lkp, List.find?_cons, e]
    · rw [valV_neg (fun z => e (Sum.inl.inj z)), ih]
      simp [lkp, List.find?_cons, e]
theorem lkp_mem {ps : List (Int × Str)} {t : Int} {x : Str} (h : lkp ps t = some x) : (t, x) ∈ ps := by
  induction ps with
  | nil => cases h
  | cons p ps ih =>
    by_cases e : p.1 = t
    · have : lkp (p :: ps) t = some p.2 := by simp [lkp, List.find?_cons, e]
      rw [this] at h
      cases h
      rw [← e]
      exact List.mem_cons_self
    · have : lkp (p :: ps) t = lkp ps t := by simp [lkp, List.find?_cons, e]
      rw [this] at h
      exact List.mem_cons_of_mem _ (ih h)
theorem lkp_of {ps : List (Int × Str)} (nd : (ps.map (·.1)).Nodup) {t : Int} {x : Str} (h : (t, x) ∈ ps) : lkp ps t = some x := by
  induction ps with
  | nil => cases h
  | cons p ps ih =>
    rw [List.map_cons] at nd
    have nd2 := List.nodup_cons.mp nd
    rcases List.mem_cons.mp h with e | e
    · subst e
      simp [lkp, List.find?_cons]
    · have : p.1 ≠ t := fun z => nd2.1 (by rw [z]; exact List.mem_map.mpr ⟨_, e, rfl⟩)
      have q : lkp (p :: ps) t = lkp ps t := by simp [lkp, List.find?_cons, this]
      rw [q]
      exact ih nd2.2 e
theorem lkp_none {ps : List (Int × Str)} {t : Int} (h : lkp ps t = none) : t ∉ ps.map (·.1) := by
  intro z
  obtain ⟨p, hp, e⟩ := List.mem_map.mp z
  unfold lkp at h
  rw [Option.map_eq_none_iff, List.find?_eq_none] at h
  have := h p hp
  simp [e] at this
theorem pk_putNew {ps : List (Int × Str)} {t : Int} {x : Str} (h : t ∉ ps.map (·.1)) : putK (pk ps) (Sum.inl t) (V.str x) = pk (ps ++ [(t, x)]) := by
  rw [putK_new]
  · simp [pk]
  · rw [pk_val]
    have : lkp ps t = none := by
      cases e : lkp ps t with
      | none => rfl
      | some y => exact absurd (List.mem_map.mpr ⟨_, lkp_mem e, rfl⟩) h
    rw [this]
    rfl
def setP (ps : List (Int × Str)) (t : Int) (x : Str) : List (Int × Str) := ps.map fun p => if p.1 = t then (p.1, x) else p
def dropP (ps : List (Int × Str)) (t : Int) : List (Int × Str) := ps.filter fun p => decide (p.1 ≠ t)
theorem pk_put {ps : List (Int × Str)} {t : Int} {x : Str} (h : t ∈ ps.map (·.1)) : putK (pk ps) (Sum.inl t) (V.str x) = pk (setP ps t x) := by
  have a : ((pk ps).any fun kv => decide (kv.1 = Sum.inl t)) = true := by
    obtain ⟨p, hp, e⟩ := List.mem_map.mp h
    rw [List.any_eq_true]
    exact ⟨_, List.mem_map.mpr ⟨p, hp, rfl⟩, by simp [e]⟩
  unfold putK
  rw [if_pos a]
  unfold pk setP
  rw [List.map_map, List.map_map]
  apply List.map_congr_left
  intro p _
  show (if (Sum.inl p.1 : Key) = Sum.inl t then _ else _) = _
  by_cases e : p.1 = t
  · rw [if_pos (by rw [e])]
    simp [e]
  · rw [if_neg (fun z => e (Sum.inl.inj z))]
    simp [e]
theorem pk_drop (ps : List (Int × Str)) (t : Int) : dropK (pk ps) (Sum.inl t) = pk (dropP ps t) := by
  unfold dropK pk dropP
  rw [List.filter_map]
  congr 1
  apply List.filter_congr
  intro p _
  show decide ((Sum.inl p.1 : Key) ≠ Sum.inl t) = decide (p.1 ≠ t)
  by_cases e : p.1 = t
  · simp [e]
  · have : ¬ (Sum.inl p.1 : Key) = Sum.inl t := fun z => e (Sum.inl.inj z)
    simp [e]
theorem pk_len (ps : List (Int × Str)) : (pk ps).length = ps.length := by simp [pk]
/-- how many tasks stand at or below a name -/
def runN (rs : List RowD) (ps : List (Int × Str)) (x : Str) : Int := ((ps.filter fun p => decide (InB ("" : Str) (RR rs) x p.2)).length : Nat)
/-! ### what may change of a machine -/
abbrev mutA (a : MA) : List Addr := [a.me, a.pl, a.sz]
theorem keep_sz {H : Hp} {a : MA} (o : HO) : Keep (mutA a) H (upd H a.sz o) := (Keep.upd o).mono fun x h => by rw [List.mem_singleton.mp h]; simp
theorem keep_pl {H : Hp} {a : MA} (o : HO) : Keep (mutA a) H (upd H a.pl o) := (Keep.upd o).mono fun x h => by rw [List.mem_singleton.mp h]; simp
theorem keep_me {H : Hp} {a : MA} (o : HO) : Keep (mutA a) H (upd H a.me o) := (Keep.upd o).mono fun x h => by rw [List.mem_singleton.mp h]; simp
theorem Keep.exL {L : List Addr} {H H1 H2 : Hp} (k : Keep L H H1) (e : Ex H1 H2) : Keep L H H2 := k.trans ((Keep.of e).mono (L := []) fun _ h => by cases h)
theorem Keep.exR {L : List Addr} {H H1 H2 : Hp} (e : Ex H H1) (k : Keep L H1 H2) : Keep L H H2 := ((Keep.of e).mono (L := []) fun _ h => by cases h).trans k
theorem setP_keys (ps : List (Int × Str)) (t : Int) (x : Str) : (setP ps t x).map (·.1) = ps.map (·.1) := by
  unfold setP
  rw [List.map_map]
  apply List.map_congr_left
  intro p _
  show (if p.1 = t then (p.1, x) else p).1 = p.1
  split <;> rfl
theorem MvOk.drop {c : MC} {v : MV} (h : MvOk c v) (t : Int) : MvOk c { v with ps := dropP v.ps t } := by
  have sub : (dropP v.ps t).Sublist v.ps := List.filter_sublist
  exact ⟨(sub.map _).nodup h.nd, fun p hp => h.ls p (sub.subset hp), fun p hp => h.lt p (sub.subset hp), h.ge, Nat.le_trans sub.length_le h.few, h.pos, h.zero, h.small⟩
theorem MvOk.set {c : MC} {v : MV} (h : MvOk c v) (t : Int) {x : Str} (hx : x ∈ lvs c.rs) : MvOk c { v with ps := setP v.ps t x } := by
  have mem : ∀ p, p ∈ setP v.ps t x → ∃ q, q ∈ v.ps ∧ p.1 = q.1 ∧ (p.2 = x ∨ p.2 = q.2) := fun p hp => by
    obtain ⟨q, hq, e⟩ := List.mem_map.mp hp
    refine ⟨q, hq, ?_⟩
    rw [← e]
    split
    · exact ⟨rfl, .inl rfl⟩
    · exact ⟨rfl, .inr rfl⟩
  refine ⟨by show ((setP v.ps t x).map (·.1)).Nodup; rw [setP_keys]; exact h.nd, fun p hp => ?_, fun p hp => ?_, h.ge, by show (setP v.ps t x).length ≤ 1000; rw [setP, List.length_map]; exact h.few, h.pos, h.zero, h.small⟩
  · obtain ⟨q, hq, _, e | e⟩ := mem p hp
    · rw [e]
      exact hx
    · rw [e]
      exact h.ls q hq
  · obtain ⟨q, hq, e, _⟩ := mem p hp
    rw [e]
    exact h.lt q hq
theorem MvOk.more {c : MC} {v : MV} (h : MvOk c v) {x : Str} (hx : x ∈ lvs c.rs) (hf : v.ps.length < 1000) : MvOk c { v with ps := v.ps ++ [(v.many, x)], many := v.many + 1 } := by
  refine ⟨?_, fun p hp => ?_, fun p hp => ?_, by have := h.ge; show 0 ≤ v.many + 1; omega, by show (v.ps ++ [(v.many, x)]).length ≤ 1000; rw [List.length_append]; simp only [List.length_cons, List.length_nil]; omega, h.pos, h.zero, h.small⟩
  · show ((v.ps ++ [(v.many, x)]).map (·.1)).Nodup
    rw [List.map_append, List.nodup_append]
    refine ⟨h.nd, by simp, fun a ha b hb e => ?_⟩
    obtain ⟨p, hp, rfl⟩ := List.mem_map.mp ha
    have : b = v.many := by simpa using hb
    have := h.lt p hp
    omega
  · rcases List.mem_append.mp hp with z | z
    · exact h.ls p z
    · rw [List.mem_singleton.mp z]
      exact hx
  · show p.1 < v.many + 1
    rcases List.mem_append.mp hp with z | z
    · have := h.lt p z
      omega
    · rw [List.mem_singleton.mp z]
      show v.many < v.many + 1
      omega
theorem MvOk.size {c : MC} {v : MV} (h : MvOk c v) {x : Str} {n : Int} (hx : x ∈ lvs c.rs) (h0 : 0 ≤ n) (h1 : n < 10 ^ 60) : MvOk c { v with S := setS v.S x n } := by
  refine ⟨h.nd, h.ls, h.lt, h.ge, h.few, fun m => ?_, fun m hm => ?_, fun m => ?_⟩
  · show 0 ≤ setS v.S x n m
    unfold setS
    split
    · exact h0
    · exact h.pos m
  · show setS v.S x n m = 0
    unfold setS
    rw [if_neg (fun e : m = x => hm (e ▸ hx))]
    exact h.zero m hm
  · show setS v.S x n m < _
    unfold setS
    split
    · exact h1
    · exact h.small m
theorem lkp_key {ps : List (Int × Str)} {t : Int} {x : Str} (h : lkp ps t = some x) : t ∈ ps.map (·.1) := List.mem_map.mpr ⟨_, lkp_mem h, rfl⟩
theorem lvs_nms {rs : List RowD} {x : Str} (h : x ∈ lvs rs) : x ∈ nms rs := (mem_lvs.mp h).1
end K74
set_option Elab.async false
set_option linter.all false
set_option maxRecDepth 100000
set_option maxHeartbeats 4000000
namespace K74
open PySem PySem.Spec PyProof.Rows L2
section
variable {P : Program} {w : World} {K : PySem.W.Frag} {mg : Str → Option Value} {base : Heap}
abbrev N_Machine_way_up : List Str := ["self", "leaf"]
abbrev P_Machine_way_up : List Str := ["self", "leaf"]
theorem sc_Machine_way_up : FnScope N_Machine_way_up P_Machine_way_up (defScope s_Machine_way_up) := C8.fnScope_by (by decide +kernel)
theorem b_Machine_way_up {K : PySem.W.Frag} {fd : FuncData} (F : FunD K d_Machine_way_up.name d_Machine_way_up.qual d_Machine_way_up.params d_Machine_way_up.body d_Machine_way_up.scope (d_Machine_way_up.dvs K) (d_Machine_way_up.kws K) (He.fAd K d_Machine_way_up.at_) fd) : L2.Binds K fd P_Machine_way_up [] :=
  FunD.bindsN F fun _ _ _ _ _ _ us hl => match us, hl with | [_, _], _ => rfl
abbrev N_Machine_running : List Str := ["self", "name", "names", "task"]
abbrev P_Machine_running : List Str := ["self", "name"]
theorem sc_Machine_running : FnScope N_Machine_running P_Machine_running (defScope s_Machine_running) := C8.fnScope_by (by decide +kernel)
theorem b_Machine_running {K : PySem.W.Frag} {fd : FuncData} (F : FunD K d_Machine_running.name d_Machine_running.qual d_Machine_running.params d_Machine_running.body d_Machine_running.scope (d_Machine_running.dvs K) (d_Machine_running.kws K) (He.fAd K d_Machine_running.at_) fd) : L2.Binds K fd P_Machine_running [] :=
  FunD.bindsN F fun _ _ _ _ _ _ us hl => match us, hl with | [_, _], _ => rfl
abbrev N_Machine_charged : List Str := ["self", "name", "one"]
abbrev P_Machine_charged : List Str := ["self", "name"]
theorem sc_Machine_charged : FnScope N_Machine_charged P_Machine_charged (defScope s_Machine_charged) := C8.fnScope_by (by decide +kernel)
theorem b_Machine_charged {K : PySem.W.Frag} {fd : FuncData} (F : FunD K d_Machine_charged.name d_Machine_charged.qual d_Machine_charged.params d_Machine_charged.body d_Machine_charged.scope (d_Machine_charged.dvs K) (d_Machine_charged.kws K) (He.fAd K d_Machine_charged.at_) fd) : L2.Binds K fd P_Machine_charged [] :=
  FunD.bindsN F fun _ _ _ _ _ _ us hl => match us, hl with | [_, _], _ => rfl
abbrev N_Machine_spare : List Str := ["self", "leaf", "names", "name"]
abbrev P_Machine_spare : List Str := ["self", "leaf"]
theorem sc_Machine_spare : FnScope N_Machine_spare P_Machine_spare (defScope s_Machine_spare) := C8.fnScope_by (by decide +kernel)
theorem b_Machine_spare {K : PySem.W.Frag} {fd : FuncData} (F : FunD K d_Machine_spare.name d_Machine_spare.qual d_Machine_spare.params d_Machine_spare.body d_Machine_spare.scope (d_Machine_spare.dvs K) (d_Machine_spare.kws K) (He.fAd K d_Machine_spare.at_) fd) : L2.Binds K fd P_Machine_spare [] :=
  FunD.bindsN F fun _ _ _ _ _ _ us hl => match us, hl with | [_, _], _ => rfl
def spWayUp (K : PySem.W.Frag) : Sp := fun vs H Q _ => ∃ (S0 : Hp) (a : MA) (c : MC) (v : MV) (x : Str), vs = [.ref a.me, .str x] ∧ MSt K S0 H a c v ∧ x ∈ nms c.rs ∧ ∀ p H', H p = none → Ex H H' → H' p = some (.lst (((pathR (RR c.rs) x).reverse ++ [("" : Str)]).map V.str)) → Q (.ref p) H'
theorem ok_way_up (T : Tx K mg) : Has P w K mg base CX0 4 d_Machine_way_up P_Machine_way_up (spWayUp K) := by
  have H_Tree_path : Has P w K mg base CX0 3 d_Tree_path P_Tree_path (spTPath K) := ok_Tree_path T
  refine has0 T _ at_d_Machine_way_up sc_Machine_way_up (fun fd F => b_Machine_way_up F) (fun vs H Q E h => ?_) (fun cdv A outer s H vs Q E hr h => ?_)
  · obtain ⟨S0, a, c, v, x, rfl, _⟩ := h
    rfl
  · obtain ⟨S0, a, c, v, x, rfl, M, hx, k⟩ := h
    have nd := sc_Machine_way_up.nd
    refine ⟨_, (pss_one (ps_ret (pe_op op_cat (pe_revL (pe_ml H_Tree_path hr (by first | decide | omega) T.c_Tree T.m_Tree_path pass0 (peF K rfl (pv 0) rfl) (pa_cons (pv 1) pa_nil))) (pe_lst (pa_cons pe_str pa_nil))))), ?_⟩
    have hT := M.tr
    have hw := M.ok.wf
    obtain ⟨dx, ln, bn, bl, bnk, blk, h1, _⟩ := M.tr
    refine ⟨_, rfl, a.me, _, _, _, _, rfl, M.me, T.c_Machine, T.n_Machine_tree, rfl, a.tr, dx, _, rfl, h1, rfl, _, rfl, a.tr, x, c.rs, rfl, hT, hw, hx, fun p H1 hp e1 h2 => ?_⟩
    refine ⟨p, _, rfl, K74.SqL.of' h2, fun q hq => ?_⟩
    refine ⟨by show 1 ≤ sizeLine; decide, fun l hl => ?_⟩
    have e2 : Ex H1 (upd H1 q (.lst ((pathR (RR c.rs) x).map V.str).reverse)) := Ex.new hq
    have e3 := e2.trans (Ex.new (o := .lst [.str ""]) hl)
    refine ⟨q, l, _, _, rfl, rfl, (Ex.new hl) _ _ upd_same, upd_same, ?_, fun z hz => ?_⟩
    · have := hw.path_le x
      rw [List.length_reverse, List.length_map, sizeLine_eq]
      simp only [List.length_cons, List.length_nil]
      omega
    · have e4 := (e1.trans e3)
      refine k z _ (e4.free hz) (e4.trans (Ex.new hz)) ?_
      rw [upd_same, List.map_append, List.map_reverse]
      rfl
def spRunning (K : PySem.W.Frag) : Sp := fun vs H Q _ => ∃ (S0 : Hp) (a : MA) (c : MC) (v : MV) (x : Str), vs = [.ref a.me, .str x] ∧ MSt K S0 H a c v ∧ (x = "" ∨ x ∈ nms c.rs) ∧ ∀ H', Ex H H' → Q (.int (runN c.rs v.ps x)) H'
theorem ok_running (T : Tx K mg) : Has P w K mg base CX0 11 d_Machine_running P_Machine_running (spRunning K) := by
  have H_check_place : Has P w K mg base CX0 2 d_check_place P_check_place (spCkPlace K) := ok_check_place T
  have H_all_below : Has P w K mg base CX0 10 d_all_below P_all_below (spAllBelow K 9) := ok_all_below T 9
  refine has0 T _ at_d_Machine_running sc_Machine_running (fun fd F => b_Machine_running F) (fun vs H Q E h => ?_) (fun cdv A outer s H vs Q E hr h => ?_)
  · obtain ⟨S0, a, c, v, x, rfl, _⟩ := h
    rfl
  · obtain ⟨S0, a, c, v, x, rfl, M, hx, k⟩ := h
    have hu := hu_of hr
    have hw := M.ok.wf
    have nd := sc_Machine_running.nd
    refine ⟨_, (pss_cons (ps_expr (pe_cl H_check_place hr (by first | decide | omega) T.g_check_place pass0 (pa_cons (peF K rfl (pv 0) rfl) (pa_cons (pv 1) pa_nil))))
        (pss_cons (ps_set (i := 2) nd rfl (Or.inr rfl) (pe_cl H_all_below hr (by first | decide | omega) T.g_all_below pass0 (pa_cons (peF K rfl (pv 0) rfl) (pa_cons (pv 1) pa_nil))))
        (pss_one (ps_ret (pe_callB (callLen K rfl) (by rfl) T.z_len (by decide +kernel) (pa_cons (pe_lockO (pe_lc (own := [("task", 3)]) (g := gName 3) rfl nd (pi_keys (peF K rfl (pv 0) rfl)) (blkOk_by (N := N_Machine_running) (sc := defScope s_Machine_running) (by decide +kernel)) (fun _ _ _ _ _ => pg_name (i := 3) nd rfl (Or.inl rfl)) (fun _ _ _ _ _ => (pts_one (pt_cmpR (opIn K rfl) (pe_dget hu (peF K rfl (pv 0) rfl) (pv 3) (fun _ _ => rfl)) (pv 2) (by rfl)))) (fun _ _ _ _ _ => (pv 3)))) pa_nil)))))), ?_⟩
    refine ⟨_, rfl, a.me, _, _, _, _, rfl, M.me, T.c_Machine, T.n_Machine_tree, rfl, _, rfl, a.tr, x, c.rs, rfl, M.tr, hx, ?_⟩
    refine ⟨_, rfl, a.me, _, _, _, _, rfl, M.me, T.c_Machine, T.n_Machine_tree, rfl, _, rfl, a.tr, x, c.rs, rfl, M.tr, hw, hx, by omega, fun p H1 ys hp e1 h1 hab => ?_⟩
    have M1 := M.to e1
    refine keysC (.inl M1.pl) (by rw [pk_len]; have := M.vok.few; omega) (fun kv => match kv with | (.inl t, .str y) => if decide (InB ("" : Str) (RR c.rs) x y) = true then some (V.int t) else none | _ => none)
      (fun od Hl h2 h3 Q1 q1 => ⟨_, rfl, a.me, _, _, _, _, rfl, by rw [h3 _ M1.nmp]; exact M1.me, T.c_Machine, T.n_Machine_places, rfl, q1⟩) (fun i kk vv od Hl H' hk h2 h3 e Q q => ?_) (fun p2 H2 hp2 e2 h2 => ?_)
    · unfold pk at hk
      rw [List.getElem?_map] at hk
      obtain ⟨y, hy, hye⟩ := Option.map_eq_some_iff.mp hk
      cases hye
      have hym := List.mem_of_getElem? hy
      have hl := M.vok.ls y hym
      have npp : p ≠ a.pl := fun e => by
        have := M1.pl
        rw [← e, h1] at this
        cases this
      have hpl : SqL K H' p (ys.map V.str) := K74.SqL.of' (e _ _ (by rw [h3 _ npp]; exact h1))
      have hme : H' a.me = some (.ins (He.ga K "Machine") a.dx (mF a v.many)) := e _ _ (by rw [h3 _ M1.nmp]; exact M1.me)
      refine ⟨rfl, _, rfl, a.me, _, _, _, _, rfl, hme, T.c_Machine, T.n_Machine_places, rfl, _, rfl, a.pl, .str y.2, rfl, .inl ⟨_, Sum.inl y.1, .inr ⟨od, e _ _ h2⟩, rfl, ?_⟩, _, rfl, p, _, rfl, .inl hpl, rfl, flat_strs _, ?_⟩
      · rw [pk_val, lkp_of M.vok.nd hym]
        rfl
      · rw [inV_str]
        refine ⟨_, rfl, ?_⟩
        have key : y.2 ∈ ys ↔ InB ("" : Str) (RR c.rs) x y.2 := by
          rw [hab.2]
          constructor
          · rintro (z | z)
            · rw [z]
              rcases hx with h | h
              · exact .inl h
              · exact .inr (path_self (RR_names.mpr h))
            · exact z.2
          · intro z
            exact .inr ⟨(mem_lvs.mp hl).1, z⟩
        by_cases cc : InB ("" : Str) (RR c.rs) x y.2
        · have qq : ∀ H4, Ex H' H4 → Q (some (V.int y.1)) H4 := fun H4 e4 => by
            have := q H4 e4
            simpa [cc] using this
          exact ifT (decide_eq_true (key.mpr cc)) ⟨_, rfl, qq _ (Ex.refl _)⟩
        · have qq : ∀ H4, Ex H' H4 → Q none H4 := fun H4 e4 => by
            have := q H4 e4
            simpa [cc] using this
          exact ifF (decide_eq_false (fun z => cc (key.mp z))) (qq _ (Ex.refl _))
    · refine ⟨p2, _, rfl, .inl (K74.SqL.of' h2), ?_⟩
      have el : ((pk v.ps).filterMap (fun kv => match kv with | (.inl t, .str y) => if decide (InB ("" : Str) (RR c.rs) x y) = true then some (V.int t) else none | _ => none)).length = (v.ps.filter fun p => decide (InB ("" : Str) (RR c.rs) x p.2)).length := by
        unfold pk
        rw [List.filterMap_map]
        show (v.ps.filterMap fun p => if decide (InB ("" : Str) (RR c.rs) x p.2) = true then some (V.int p.1) else none).length = _
        rw [filterMap_if (fun p : Int × Str => decide (InB ("" : Str) (RR c.rs) x p.2)) (fun p => V.int p.1), List.length_map]
      rw [el]
      exact k H2 (e1.trans e2)
def spMCharged (K : PySem.W.Frag) : Sp := fun vs H Q _ => ∃ (S0 : Hp) (a : MA) (c : MC) (v : MV) (x : Str), vs = [.ref a.me, .str x] ∧ MSt K S0 H a c v ∧ (x = "" ∨ x ∈ nms c.rs) ∧ ∀ H', Ex H H' → Q (.int (chg c.rs (lvs c.rs) v.S x)) H'
theorem ok_charged (T : Tx K mg) : Has P w K mg base CX0 11 d_Machine_charged P_Machine_charged (spMCharged K) := by
  have H_check_place : Has P w K mg base CX0 2 d_check_place P_check_place (spCkPlace K) := ok_check_place T
  have H_all_below : Has P w K mg base CX0 10 d_all_below P_all_below (spAllBelow K 9) := ok_all_below T 9
  refine has0 T _ at_d_Machine_charged sc_Machine_charged (fun fd F => b_Machine_charged F) (fun vs H Q E h => ?_) (fun cdv A outer s H vs Q E hr h => ?_)
  · obtain ⟨S0, a, c, v, x, rfl, _⟩ := h
    rfl
  · obtain ⟨S0, a, c, v, x, rfl, M, hx, k⟩ := h
    have hu := hu_of hr
    have hw := M.ok.wf
    have nd := sc_Machine_charged.nd
    refine ⟨_, (pss_cons (ps_expr (pe_cl H_check_place hr (by first | decide | omega) T.g_check_place pass0 (pa_cons (peF K rfl (pv 0) rfl) (pa_cons (pv 1) pa_nil))))
        (pss_one (ps_ret (pe_callB (cr_sum rfl) (by rfl) T.z_sum (by decide +kernel) (pa_cons (pe_lc (own := [("one", 2)]) (g := gName 2) rfl nd (pi_list (pe_cl H_all_below hr (by first | decide | omega) T.g_all_below pass0 (pa_cons (peF K rfl (pv 0) rfl) (pa_cons (pv 1) pa_nil)))) (blkOk_by (N := N_Machine_charged) (sc := defScope s_Machine_charged) (by decide +kernel)) (fun _ _ _ _ _ => pg_name (i := 2) nd rfl (Or.inl rfl)) (fun _ _ _ _ _ => (pts_one (pt_cmpR op_ne (pv 2) pe_str (nomark _)))) (fun _ _ _ _ _ => (pe_dget hu (peF K rfl (pv 0) rfl) (pv 2) (fun _ _ => rfl)))) pa_nil))))), ?_⟩
    refine ⟨_, rfl, a.me, _, _, _, _, rfl, M.me, T.c_Machine, T.n_Machine_tree, rfl, _, rfl, a.tr, x, c.rs, rfl, M.tr, hx, ?_⟩
    refine ⟨_, rfl, a.me, _, _, _, _, rfl, M.me, T.c_Machine, T.n_Machine_tree, rfl, _, rfl, a.tr, x, c.rs, rfl, M.tr, hw, hx, by omega, fun p H1 ys hp e1 h1 hab => ?_⟩
    have M1 := M.to e1
    refine ⟨p, rfl, ⟨_, K74.SqL.of' h1⟩, fun D hD => ?_⟩
    refine lc_b ys V.str (fun y => if decide (y ≠ ("" : Str)) = true then some (V.int (v.S y)) else none) hD (K74.SqL.of' h1) (by have := hab.len hw; omega) (fun i y H' hy e Q q => ?_) (fun H2 e2 h2 => ?_)
    · have hym := List.mem_of_getElem? hy
      refine ⟨rfl, _, rfl, rfl, _, rfl, ?_⟩
      by_cases cc : y = ""
      · rw [if_neg (by simp [cc])] at q
        exact ifF (by simp [cc]) (q _ (Ex.refl _))
      · rw [if_pos (by simp [cc])] at q
        have hyn : y ∈ nms c.rs := by
          rcases (hab.2 y).mp hym with z | z
          · exact z ▸ hx.resolve_left (fun h => cc (z.trans h))
          · exact z.1
        exact ifT (by simp [cc]) ⟨_, rfl, a.me, _, _, _, _, rfl, e _ _ M1.me, T.c_Machine, T.n_Machine_sizes, rfl, _, rfl, a.sz, _, rfl, get_fm (.inl (e _ _ M1.sz)) hyn, q _ (Ex.refl _)⟩
    · rw [filterMap_if] at h2
      refine ⟨D, (ys.filter fun y => decide (y ≠ ("" : Str))).map v.S, rfl, K74.SqL.of' (by rw [h2, List.map_map]; rfl), ?_⟩
      rw [charged_eq hw hx hab fun n _ hn => M.vok.zero n hn]
      exact k H2 (e1.trans e2)
def MinV (L : List Int) (v : V) : Prop := (L = [] ∧ v = .non) ∨ ∃ m, v = .int m ∧ m ∈ L ∧ ∀ j, j ∈ L → m ≤ j
def spMSpare (K : PySem.W.Frag) : Sp := fun vs H Q _ => ∃ (S0 : Hp) (a : MA) (c : MC) (v : MV) (x : Str), vs = [.ref a.me, .str x] ∧ MSt K S0 H a c v ∧ x ∈ lvs c.rs ∧
  ∀ r H', Ex H H' → MinV ((((pathR (RR c.rs) x).reverse ++ [("" : Str)]).filter fun n => decide (n ∈ c.pn)).map fun n => c.pS n - chg c.rs (lvs c.rs) v.S n) r → Q r H'
theorem ok_spare (T : Tx K mg) : Has P w K mg base CX0 12 d_Machine_spare P_Machine_spare (spMSpare K) := by
  have H_check_leaf : Has P w K mg base CX0 2 d_check_leaf P_check_leaf (spCkLeaf K) := ok_check_leaf T
  have H_Machine_way_up : Has P w K mg base CX0 4 d_Machine_way_up P_Machine_way_up (spWayUp K) := ok_way_up T
  have H_Machine_charged : Has P w K mg base CX0 11 d_Machine_charged P_Machine_charged (spMCharged K) := ok_charged T
  refine has0 T _ at_d_Machine_spare sc_Machine_spare (fun fd F => b_Machine_spare F) (fun vs H Q E h => ?_) (fun cdv A outer s H vs Q E hr h => ?_)
  · obtain ⟨S0, a, c, v, x, rfl, _⟩ := h
    rfl
  · obtain ⟨S0, a, c, v, x, rfl, M, hx, k⟩ := h
    have hu := hu_of hr
    have hw := M.ok.wf
    have hxn := (mem_lvs.mp hx).1
    have nd := sc_Machine_spare.nd
    refine ⟨_, (pss_cons (ps_expr (pe_cl H_check_leaf hr (by first | decide | omega) T.g_check_leaf pass0 (pa_cons (peF K rfl (pv 0) rfl) (pa_cons (pv 1) pa_nil))))
        (pss_cons (ps_setLc (i := 2) (own := [("name", 3)]) (g := gName 3) rfl nd rfl rfl (sw_true rfl rfl rfl (by decide +kernel)) (pi_list (pe_ml H_Machine_way_up hr (by first | decide | omega) T.c_Machine T.m_Machine_way_up pass0 (pv 0) (pa_cons (pv 1) pa_nil))) (blkOk_by (N := N_Machine_spare) (sc := defScope s_Machine_spare) (by decide +kernel)) (fun _ _ _ _ _ => pg_name (i := 3) nd rfl (Or.inl rfl)) (fun _ _ _ _ _ => (pts_one (pt_cmp (pc_din hu (pv 3) (peF K rfl (pv 0) rfl))))) (fun _ _ _ _ _ => (pv 3)))
        (pss_one (ps_ret (pe_callBK (cr_minD K rfl rfl hr.units) (by rfl) T.z_min (by decide +kernel) (pa_cons (pe_lc (own := [("name", 3)]) (g := gName 3) (tt := tYes) rfl nd (pi_list (pv 2)) (blkOk_by (N := N_Machine_spare) (sc := defScope s_Machine_spare) (by decide +kernel)) (fun _ _ _ _ _ => pg_name (i := 3) nd rfl (Or.inl rfl)) (fun _ _ _ _ _ => pts_nil) (fun _ _ _ _ _ => (pe_op op_sub (pe_dget hu (peF K rfl (pv 0) rfl) (pv 3) (fun _ _ => rfl)) (pe_ml H_Machine_charged hr (by first | decide | omega) T.c_Machine T.m_Machine_charged pass0 (pv 0) (pa_cons (pv 3) pa_nil))))) pa_nil) (pk_cons pe_non pk_nil)))))), ?_⟩
    refine ⟨_, rfl, a.me, _, _, _, _, rfl, M.me, T.c_Machine, T.n_Machine_tree, rfl, _, rfl, a.tr, x, c.rs, rfl, M.tr, hx, fun H0 e0 => ?_⟩
    have M0 := M.to e0
    refine ⟨_, rfl, a.me, _, _, rfl, M0.me, rfl, _, rfl, S0, a, c, v, x, rfl, M0, hxn, fun p H1 hp e1 h1 => ?_⟩
    have M1 := M0.to e1
    have hlen : ((pathR (RR c.rs) x).reverse ++ [("" : Str)]).length ≤ 9 := by
      have := hw.path_le x
      rw [List.length_append, List.length_reverse]
      simp only [List.length_cons, List.length_nil]
      omega
    have hmem : ∀ n, n ∈ ((pathR (RR c.rs) x).reverse ++ [("" : Str)]) → n = "" ∨ n ∈ nms c.rs := fun n hn => by
      rcases List.mem_append.mp hn with z | z
      · exact .inr (RR_names.mp (path_sub x n (List.mem_reverse.mp z)))
      · exact .inl (List.mem_singleton.mp z)
    generalize hL : (pathR (RR c.rs) x).reverse ++ [("" : Str)] = L at *
    refine ⟨p, rfl, ⟨_, K74.SqL.of' h1⟩, fun D hD => ?_⟩
    refine lc_b L V.str (fun n => if decide (n ∈ c.pn) = true then some (V.str n) else none) hD (K74.SqL.of' h1) (by omega) (fun i n H' hn e Q q => ?_) (fun H2 e2 h2 => ?_)
    · refine ⟨rfl, _, rfl, _, rfl, a.me, _, _, _, _, rfl, e _ _ M1.me, T.c_Machine, T.n_Machine_most_pages, rfl, a.mp, _, rfl, get_fmO n (.inl (e _ _ M1.Mp)), _, rfl, ?_⟩
      by_cases cc : n ∈ c.pn
      · rw [if_pos (decide_eq_true cc)] at q
        rw [if_pos cc]
        exact ifT rfl ⟨_, rfl, q _ (Ex.refl _)⟩
      · rw [if_neg (by simp [cc])] at q
        rw [if_neg cc]
        exact ifF rfl (q _ (Ex.refl _))
    · rw [filterMap_if] at h2
      have M2 := M1.to e2
      refine ⟨_, rfl, D, rfl, ⟨_, K74.SqL.of' h2⟩, fun D2 hD2 => ?_⟩
      refine lc_b (L.filter fun n => decide (n ∈ c.pn)) V.str (fun n => some (V.int (c.pS n - chg c.rs (lvs c.rs) v.S n))) hD2 (K74.SqL.of' h2) (by have := List.length_filter_le (fun n => decide (n ∈ c.pn)) L; omega) (fun i n H' hn e Q q => ?_) (fun H3 e3 h3 => ?_)
      · have hn2 := List.mem_filter.mp (List.mem_of_getElem? hn)
        have M3 := M2.to e
        refine ⟨rfl, _, rfl, a.me, _, _, _, _, rfl, M3.me, T.c_Machine, T.n_Machine_most_pages, rfl, _, rfl, a.mp, _, rfl, get_fm (.inl M3.Mp) (of_decide_eq_true hn2.2), ?_⟩
        refine ⟨_, rfl, a.me, _, _, rfl, M3.me, rfl, _, rfl, S0, a, c, v, n, rfl, M3, hmem n hn2.1, fun H4 e4 => ⟨_, _, rfl, rfl, q H4 e4⟩⟩
      · rw [filterMap_some] at h3
        have e5 := ((e0.trans e1).trans e2).trans e3
        refine ⟨D2, _, rfl, rfl, K74.SqL.of' (by rw [h3, List.map_map]; rfl), fun h => k _ _ e5 (.inl ⟨h, rfl⟩), fun m h1 h2 => k _ _ e5 (.inr ⟨m, rfl, h1, h2⟩)⟩
end
end K74
set_option Elab.async false
set_option linter.all false
set_option maxRecDepth 100000
set_option maxHeartbeats 4000000
namespace K74
open PySem PySem.Spec PyProof.Rows L2
section
variable {P : Program} {w : World} {K : PySem.W.Frag} {mg : Str → Option Value} {base : Heap}
abbrev N_Machine_check_task : List Str := ["self", "task"]
abbrev P_Machine_check_task : List Str := ["self", "task"]
theorem sc_Machine_check_task : FnScope N_Machine_check_task P_Machine_check_task (defScope s_Machine_check_task) := C8.fnScope_by (by decide +kernel)
theorem b_Machine_check_task {K : PySem.W.Frag} {fd : FuncData} (F : FunD K d_Machine_check_task.name d_Machine_check_task.qual d_Machine_check_task.params d_Machine_check_task.body d_Machine_check_task.scope (d_Machine_check_task.dvs K) (d_Machine_check_task.kws K) (He.fAd K d_Machine_check_task.at_) fd) : L2.Binds K fd P_Machine_check_task [] :=
  FunD.bindsN F fun _ _ _ _ _ _ us hl => match us, hl with | [_, _], _ => rfl
abbrev N_Machine_stop : List Str := ["self", "task"]
abbrev P_Machine_stop : List Str := ["self", "task"]
theorem sc_Machine_stop : FnScope N_Machine_stop P_Machine_stop (defScope s_Machine_stop) := C8.fnScope_by (by decide +kernel)
theorem b_Machine_stop {K : PySem.W.Frag} {fd : FuncData} (F : FunD K d_Machine_stop.name d_Machine_stop.qual d_Machine_stop.params d_Machine_stop.body d_Machine_stop.scope (d_Machine_stop.dvs K) (d_Machine_stop.kws K) (He.fAd K d_Machine_stop.at_) fd) : L2.Binds K fd P_Machine_stop [] :=
  FunD.bindsN F fun _ _ _ _ _ _ us hl => match us, hl with | [_, _], _ => rfl
abbrev N_Machine_move : List Str := ["self", "task", "leaf"]
abbrev P_Machine_move : List Str := ["self", "task", "leaf"]
theorem sc_Machine_move : FnScope N_Machine_move P_Machine_move (defScope s_Machine_move) := C8.fnScope_by (by decide +kernel)
theorem b_Machine_move {K : PySem.W.Frag} {fd : FuncData} (F : FunD K d_Machine_move.name d_Machine_move.qual d_Machine_move.params d_Machine_move.body d_Machine_move.scope (d_Machine_move.dvs K) (d_Machine_move.kws K) (He.fAd K d_Machine_move.at_) fd) : L2.Binds K fd P_Machine_move [] :=
  FunD.bindsN F fun _ _ _ _ _ _ us hl => match us, hl with | [_, _, _], _ => rfl
abbrev N_Machine_give : List Str := ["self", "leaf", "number"]
abbrev P_Machine_give : List Str := ["self", "leaf", "number"]
theorem sc_Machine_give : FnScope N_Machine_give P_Machine_give (defScope s_Machine_give) := C8.fnScope_by (by decide +kernel)
theorem b_Machine_give {K : PySem.W.Frag} {fd : FuncData} (F : FunD K d_Machine_give.name d_Machine_give.qual d_Machine_give.params d_Machine_give.body d_Machine_give.scope (d_Machine_give.dvs K) (d_Machine_give.kws K) (He.fAd K d_Machine_give.at_) fd) : L2.Binds K fd P_Machine_give [] :=
  FunD.bindsN F fun _ _ _ _ _ _ us hl => match us, hl with | [_, _, _], _ => rfl
abbrev cNT (K : PySem.W.Frag) : Value := .ref (He.ga K "NoTask")
abbrev cNP (K : PySem.W.Frag) : Value := .ref (He.ga K "NoPages")
abbrev cNR (K : PySem.W.Frag) : Value := .ref (He.ga K "NoRoom")
def spCkTask (K : PySem.W.Frag) : Sp := fun vs H Q E => ∃ (S0 : Hp) (a : MA) (c : MC) (v : MV) (t : Int), vs = [.ref a.me, .int t] ∧ MSt K S0 H a c v ∧ 0 ≤ t ∧ (lkp v.ps t = none → E (cNT K) none H) ∧ (∀ x, lkp v.ps t = some x → Q .non H)
theorem ok_check_task (T : Tx K mg) : Has P w K mg base (CX P w) 2 d_Machine_check_task P_Machine_check_task (spCkTask K) := by
  have H_is_whole : Has P w K mg base CX0 1 d_is_whole ["thing", "least"] spIsWhole := ok_is_whole T
  refine has_of T _ at_d_Machine_check_task sc_Machine_check_task (fun fd F => b_Machine_check_task F) (fun vs H Q E h => ?_) (fun cdv A outer s H vs Q E hr h => ?_)
  · obtain ⟨S0, a, c, v, t, rfl, _⟩ := h
    rfl
  · obtain ⟨S0, a, c, v, t, rfl, M, ht, k1, k2⟩ := h
    have hu := hu_of hr
    have nd := sc_Machine_check_task.nd
    refine ⟨_, (pss_one (ps_if (PW.pt (pw_or (pt_not (pt_val (pe_cl H_is_whole hr (by first | decide | omega) T.g_is_whole pass0 (pa_cons (pv 1) (pa_cons pe_int pa_nil))))) (pw_or1 (pt_cmp (pc_dnotin hu (pv 1) (peF K rfl (pv 0) rfl)))))) (pss_one (ps_raise rfl (takes_of rfl rfl rfl rfl) (pmk_own PySem.F.excBase_ValueError T.e_NoTask.1 T.g_NoTask T.e_NoTask.2.1 (raises_own T.e_NoTask.2.2.1 T.e_NoTask.2.2.2) rfl))) pss_nil)), ?_⟩
    refine ⟨_, rfl, t, 0, rfl, _, rfl, ifF (by simp [ht]) ?_⟩
    refine ⟨_, rfl, _, rfl, a.me, _, _, _, _, rfl, M.me, T.c_Machine, T.n_Machine_places, rfl, a.pl, _, rfl, .inl ⟨_, Sum.inl t, .inl M.pl, rfl, rfl⟩, _, rfl, ?_⟩
    rw [pk_val]
    cases e : lkp v.ps t with
    | none => exact ifT rfl (k1 e)
    | some x => exact ifF rfl (k2 x e)
def spStop (K : PySem.W.Frag) : Sp := fun vs H Q E => ∃ (S0 : Hp) (a : MA) (c : MC) (v : MV) (t : Int), vs = [.ref a.me, .int t] ∧ MSt K S0 H a c v ∧ 0 ≤ t ∧ (lkp v.ps t = none → E (cNT K) none H) ∧
  (∀ x, lkp v.ps t = some x → ∀ H', Keep (mutA a) H H' → MSt K S0 H' a c { v with ps := dropP v.ps t } → Q .non H')
theorem ok_stop (T : Tx K mg) : Has P w K mg base (CX P w) 3 d_Machine_stop P_Machine_stop (spStop K) := by
  have H_Machine_check_task : Has P w K mg base (CX P w) 2 d_Machine_check_task P_Machine_check_task (spCkTask K) := ok_check_task T
  refine has_of T _ at_d_Machine_stop sc_Machine_stop (fun fd F => b_Machine_stop F) (fun vs H Q E h => ?_) (fun cdv A outer s H vs Q E hr h => ?_)
  · obtain ⟨S0, a, c, v, t, rfl, _⟩ := h
    rfl
  · obtain ⟨S0, a, c, v, t, rfl, M, ht, k1, k2⟩ := h
    have nd := sc_Machine_stop.nd
    refine ⟨_, (pss_cons (ps_expr (pe_ml H_Machine_check_task hr (by first | decide | omega) T.c_Machine T.m_Machine_check_task (passes_call (E := E) (takes_of rfl rfl rfl rfl) (fun _ _ _ _ h => h)) (pv 0) (pa_cons (pv 1) pa_nil)))
        (pss_one (ps_expr (pe_dpop1 (peF K rfl (pv 0) rfl) (pv 1) ⟨rfl, rfl, rfl, rfl⟩)))), ?_⟩
    refine ⟨_, rfl, a.me, _, _, rfl, M.me, rfl, _, rfl, S0, a, c, v, t, rfl, M, ht, fun h => k1 h, fun x hx => ?_⟩
    refine ⟨_, rfl, a.me, _, _, _, _, rfl, M.me, T.c_Machine, T.n_Machine_places, rfl, a.pl, rfl, .inl ⟨_, .inl M.pl⟩, _, rfl, _, Sum.inl t, .str x, M.pl, rfl, ?_, ?_⟩
    · rw [pk_val, hx]
      rfl
    · rw [pk_drop]
      exact k2 x hx _ (keep_pl _) (M.place (M.vok.drop t))
def spMove (K : PySem.W.Frag) : Sp := fun vs H Q E => ∃ (S0 : Hp) (a : MA) (c : MC) (v : MV) (t : Int) (y : Str), vs = [.ref a.me, .int t, .str y] ∧ MSt K S0 H a c v ∧ 0 ≤ t ∧ y ∈ lvs c.rs ∧ (lkp v.ps t = none → E (cNT K) none H) ∧
  (∀ x, lkp v.ps t = some x → ∀ H', Keep (mutA a) H H' → MSt K S0 H' a c { v with ps := setP v.ps t y } → Q .non H')
theorem ok_move (T : Tx K mg) : Has P w K mg base (CX P w) 3 d_Machine_move P_Machine_move (spMove K) := by
  have H_Machine_check_task : Has P w K mg base (CX P w) 2 d_Machine_check_task P_Machine_check_task (spCkTask K) := ok_check_task T
  have H_check_leaf : Has P w K mg base CX0 2 d_check_leaf P_check_leaf (spCkLeaf K) := ok_check_leaf T
  refine has_of T _ at_d_Machine_move sc_Machine_move (fun fd F => b_Machine_move F) (fun vs H Q E h => ?_) (fun cdv A outer s H vs Q E hr h => ?_)
  · obtain ⟨S0, a, c, v, t, y, rfl, _⟩ := h
    rfl
  · obtain ⟨S0, a, c, v, t, y, rfl, M, ht, hy, k1, k2⟩ := h
    have hu := hu_of hr
    have nd := sc_Machine_move.nd
    refine ⟨_, (pss_cons (ps_expr (pe_ml H_Machine_check_task hr (by first | decide | omega) T.c_Machine T.m_Machine_check_task (passes_call (E := E) (takes_of rfl rfl rfl rfl) (fun _ _ _ _ h => h)) (pv 0) (pa_cons (pv 1) pa_nil)))
        (pss_cons (ps_expr (pe_cl H_check_leaf hr (by first | decide | omega) T.g_check_leaf pass0 (pa_cons (peF K rfl (pv 0) rfl) (pa_cons (pv 2) pa_nil))))
        (pss_one (ps_dput hu (peF K rfl (pv 0) rfl) (pv 1) (pv 2) rfl)))), ?_⟩
    refine ⟨_, rfl, a.me, _, _, rfl, M.me, rfl, _, rfl, S0, a, c, v, t, rfl, M, ht, fun h => k1 h, fun x hx => ?_⟩
    refine ⟨_, rfl, a.me, _, _, _, _, rfl, M.me, T.c_Machine, T.n_Machine_tree, rfl, _, rfl, a.tr, y, c.rs, rfl, M.tr, hy, fun H1 e1 => ?_⟩
    have M1 := M.to e1
    refine ⟨_, rfl, _, rfl, a.me, _, _, _, _, rfl, M1.me, T.c_Machine, T.n_Machine_places, rfl, _, rfl, a.pl, _, rfl, DPut.k (k := Sum.inl t) M1.pl (by rw [pk_len, sizeLine_eq]; have := M.vok.few; omega), ?_⟩
    rw [pk_put (lkp_key hx)]
    exact k2 x hx _ (Keep.exR e1 (keep_pl _)) (M1.place (M.vok.set t hy))
def spGive (K : PySem.W.Frag) : Sp := fun vs H Q E => ∃ (S0 : Hp) (a : MA) (c : MC) (v : MV) (x : Str) (n : Int), vs = [.ref a.me, .str x, .int n] ∧ MSt K S0 H a c v ∧ 0 ≤ n ∧ x ∈ lvs c.rs ∧ (v.S x < n → ∀ H', Ex H H' → E (cNP K) none H') ∧
  (n ≤ v.S x → ∀ H', Keep (mutA a) H H' → MSt K S0 H' a c { v with S := setS v.S x (v.S x - n) } → Q .non H')
theorem ok_give (T : Tx K mg) : Has P w K mg base (CX P w) 3 d_Machine_give P_Machine_give (spGive K) := by
  have H_check_pages : Has P w K mg base CX0 2 d_check_pages P_check_pages spCkPages := ok_check_pages T
  have H_check_leaf : Has P w K mg base CX0 2 d_check_leaf P_check_leaf (spCkLeaf K) := ok_check_leaf T
  refine has_of T _ at_d_Machine_give sc_Machine_give (fun fd F => b_Machine_give F) (fun vs H Q E h => ?_) (fun cdv A outer s H vs Q E hr h => ?_)
  · obtain ⟨S0, a, c, v, x, n, rfl, _⟩ := h
    rfl
  · obtain ⟨S0, a, c, v, x, n, rfl, M, hn, hx, k1, k2⟩ := h
    have hu := hu_of hr
    have nd := sc_Machine_give.nd
    refine ⟨_, (pss_cons (ps_expr (pe_cl H_check_leaf hr (by first | decide | omega) T.g_check_leaf pass0 (pa_cons (peF K rfl (pv 0) rfl) (pa_cons (pv 1) pa_nil))))
        (pss_cons (ps_expr (pe_cl H_check_pages hr (by first | decide | omega) T.g_check_pages pass0 (pa_cons (pv 2) pa_nil)))
        (pss_cons (ps_if (pt_cmpR op_gt (pv 2) (pe_dget hu (peF K rfl (pv 0) rfl) (pv 1) (fun _ _ => rfl)) (nomark _)) (pss_one (ps_raise rfl (takes_of rfl rfl rfl rfl) (pmk_own PySem.F.excBase_ValueError T.e_NoPages.1 T.g_NoPages T.e_NoPages.2.1 (raises_own T.e_NoPages.2.2.1 T.e_NoPages.2.2.2) rfl))) pss_nil)
        (pss_one (ps_daug hu (peF K rfl (pv 0) rfl) (pv 1) (pv 2) in_sub (fun _ _ _ => rfl)))))), ?_⟩
    refine ⟨_, rfl, a.me, _, _, _, _, rfl, M.me, T.c_Machine, T.n_Machine_tree, rfl, _, rfl, a.tr, x, c.rs, rfl, M.tr, hx, fun H1 e1 => ?_⟩
    have M1 := M.to e1
    refine ⟨_, rfl, n, rfl, hn, ?_⟩
    refine ⟨_, rfl, _, rfl, a.me, _, _, _, _, rfl, M1.me, T.c_Machine, T.n_Machine_sizes, rfl, _, rfl, a.sz, _, rfl, get_fm (.inl M1.sz) (lvs_nms hx), _, _, rfl, rfl, _, rfl, ?_⟩
    by_cases cc : v.S x < n
    · exact ifT (decide_eq_true cc) (k1 cc H1 e1)
    · refine ifF (decide_eq_false (by omega)) ?_
      refine ⟨_, rfl, a.me, _, _, _, _, rfl, M1.me, T.c_Machine, T.n_Machine_sizes, rfl, _, rfl, a.sz, _, rfl, get_fm (.inl M1.sz) (lvs_nms hx), _, rfl, _, _, rfl, rfl, _, DPut.k (k := Sum.inr x) M1.sz (by rw [fm_len, sizeLine_eq, List.length_map]; have := M.ok.wf.few; omega), ?_⟩
      rw [fm_put (lvs_nms hx)]
      exact k2 (by omega) _ (Keep.exR e1 (keep_sz _)) (M1.size (M.vok.size hx (by omega) (by have := M.vok.small x; omega)))
end
end K74
set_option Elab.async false
set_option linter.all false
set_option maxRecDepth 100000
set_option maxHeartbeats 4000000
/-! NoRoom(why, name): made. -/
namespace PySem
namespace K74R
open PySem.W PySem.Calls PyProof.Rows PySem.HandSPX
theorem ba {a b : Bool} (h : (a && b) = true) : a = true ∧ b = true := Bool.and_eq_true_iff.mp h
theorem fnR_of {K : Frag} {C fI : Addr} {file : Str} (h : initB K C fI file = true) : FnR K C fI file := by
  unfold initB at h
  split at h
  · rename_i oc od fd osl lk
    unfold fnB at h
    split at h
    · rename_i n1 n2 a1 q1 a2 q2 a3 q3 d b1 r0 r1 b2 r2 b3 r3 r4 r5 b4 r6 b5 r7 b6 r8 r9 sc gl c1 cc T kV doc pm an cda ct bl
      obtain ⟨h1, h⟩ := ba h
      obtain ⟨h2, h⟩ := ba h
      obtain ⟨h3, h⟩ := ba h
      obtain ⟨h4, h⟩ := ba h
      obtain ⟨h5, h⟩ := ba h
      obtain ⟨h6, h⟩ := ba h
      obtain ⟨h10, h⟩ := ba h
      obtain ⟨h7, h⟩ := ba h
      obtain ⟨h8, h9⟩ := ba h
      have e6 := of_decide_eq_true h6
      have e1 := of_decide_eq_true h1
      have e2 := of_decide_eq_true h2
      have e3 := of_decide_eq_true h3
      have e4 := of_decide_eq_true h4
      simp only [List.cons.injEq, and_true] at e1 e2
      unfold rP at e6
      simp only [List.cons.injEq, and_true] at e6
      obtain ⟨rfl, rfl, rfl, rfl, rfl, rfl⟩ := e6
      obtain ⟨rfl, rfl, rfl, rfl, rfl, rfl, rfl⟩ := e1
      obtain ⟨rfl, rfl, rfl, rfl, rfl⟩ := e2
      have e5 := of_decide_eq_true h5
      subst e3
      subst e4
      subst e5
      exact ⟨oc, od, T, kV, doc, pm, an, cda, ct, osl, cc, q1, q2, q3, r6, r7, r8, r9, d, lk, h10, h7, h8, h9⟩
    · cases h
  · cases h
structure RoomT (K : Frag) (C fI : Addr) (file : Str) : Prop where
  ex : excInitIn K C He.veBase "ValueError.__new__" = true
  ref : ∃ cd, clsIn K C = some cd ∧ refsVE cd.mro = true ∧ cd.hasDict = true
  sa : findIn K (.ref C) "__setattr__" = some (some (.builtin "object.__setattr__"))
  noN : findIn K (.ref C) "name" = some none
  iC : findIn K (.ref C) "__init__" = some (some (.ref fI))
  tC : typeIn K (.ref fI) = some (.type "function")
  sup : ks_superIn K C C "__init__" = some (some (.builtin "ValueError.__init__"))
  suV : subIn K (.ref C) (.type "ValueError") = some true
  mroC : mroIn K C (.ref C) = some true
  fn : FnR K C fI file
theorem roomT_of {K : Frag} {C fI : Addr} {file : Str} (h : roomB K C fI file = true) : RoomT K C fI file := by
  obtain ⟨h1, h⟩ := ba h
  obtain ⟨h2, h⟩ := ba h
  obtain ⟨h3, h⟩ := ba h
  obtain ⟨h4, h⟩ := ba h
  obtain ⟨h5, h⟩ := ba h
  obtain ⟨h6, h⟩ := ba h
  obtain ⟨h7, h⟩ := ba h
  obtain ⟨h8, h⟩ := ba h
  obtain ⟨h9, h10⟩ := ba h
  refine ⟨h1, ?_, He.eqO_ok h3, He.eqO_ok h4, He.eqO_ok h5, of_decide_eq_true h6, He.eqO_ok h7, of_decide_eq_true h8, of_decide_eq_true h9, fnR_of h10⟩
  cases hc : clsIn K C with
  | none =>
    rw [hc] at h2
    cases h2
  | some cd =>
    rw [hc] at h2
    obtain ⟨a, b⟩ := ba (show (refsVE cd.mro && cd.hasDict) = true from h2)
    exact ⟨cd, rfl, a, b⟩
theorem StOk.keeps {h h' : Heap} (s : StOk h) (k : ∀ b o, h.get? b = some o → h'.get? b = some o) : StOk h' := by
  obtain ⟨o, h1, h2⟩ := s
  exact ⟨o, k _ _ h1, h2⟩
theorem StOk.opaque {M : Model} {h : Heap} {C : Addr} (s : StOk h) : Looks M h (opaqueClassAbove (.ref C)) none := by
  obtain ⟨o, h1, h2⟩ := s
  have X : Frag.In [(cStatics, o)] h := fun a u e => by
    have e2 : (match a == cStatics with | true => some o | false => none) = some u := e
    cases q : (a == cStatics) with
    | true =>
      rw [q] at e2
      rw [beq_iff_eq.mp q, h1]
      exact e2
    | false =>
      rw [q] at e2
      cases e2
  exact looks_opaque X h2
/-- what __init__ leaves of a fresh exception at x -/
structure InitEnd (hp h' : Heap) (x C dx : Addr) (v : Value) : Prop where
  keep : ∀ b o, hp.get? b = some o → h'.get? b = some o
  obj : ∃ t2, h'.get? x = some { cls := .ref C, dict := some dx, data := .fields #[.ref t2, .none, .none, .none, .bool false, .none] }
  dbig : hp.objs.size ≤ dx
  dne : dx ≠ x
  ns : h'.Ns1 dx (fun y => if y = "name" then some v else none)
section
variable {prog : Program} {w : World} {A : Around} {E : Value → Shared → Prop} {R : Result → Shared → Prop} {s : Shared} {K : Frag} {C fI : Addr} {mg mb : Str → Option Value}
theorem room_init (T : RoomT K C fI (prog.main.file : Str)) {hp : Heap} {x t0 : Addr} {why v : Value} (X0 : K.In hp) (S0 : StOk hp) (G : hp.Ns mainGlobals mg) (gs : mg "super" = none) (Bn : hp.Ns builtinsNs mb) (bs : mb "super" = bootBuiltins "super")
    (htop : (prog.main.scope.names.lookup ("super" : Str)).isSome = false) (kh : ∀ b o, hp.get? b = some o → s.heap.get? b = some o) (hle : hp.objs.size ≤ s.heap.objs.size) (hlim : s.heap.NoLimit)
    (hx : s.heap.get? x = some (excO C t0)) (hxn : hp.get? x = none) (hroom : A.depth < recursionLimit) (hq : ∀ h' tk dx, InitEnd hp h' x C dx v → R (.ok (.ret .none)) { s with heap := h', toks := tk }) :
    codeAny (model prog w) A (.call (.ref fI) ⟨[.ref x, why, v], []⟩) R s := by
  obtain ⟨oc, od, dT, kV, doc, pm, an, cda, ct, osl, cc, q1, q2, q3, r6, r7, r8, r9, d, ho, hcell, hcode, hcd, htup⟩ := T.fn.ex
  have X : K.In s.heap := X0.keeps kh
  refine ks_codeAny_call_defAt (fd := ksFn "__init__" "NoRoom.__init__" (rA q1 q2 q3 d) (rB r6 r7 r8 r9) rS (.ref dT) kV doc pm an (.ref cda) ct cc) (body := rB r6 r7 r8 r9) (binds := [("self", .ref x), ("why", why), ("name", v)]) hroom (X _ _ ho) rfl hlim (codeRec_of X hcd) rfl ?_ (show ∀ y ∈ rS.names, y.2 ≠ .cell by decide) ?_ (fun h₁ hns hk₁ => ?_) rfl rfl rfl
  · unfold tup1B at htup
    split at htup
    · rename_i tc td its n tsl lT
      have e1 := of_decide_eq_true htup
      obtain ⟨z, rfl⟩ : ∃ z, its = #[z] := ⟨its[0], by
        apply Array.ext
        · exact e1
        · intro i h1 h2
          have : i = 0 := by rw [e1] at h1; omega
          subst this
          rfl⟩
      refine L2.BindsTo.of_looks fun M => ?_
      exact L2.looks_items (k := _) X lT rfl (.of_pure rfl)
    · cases htup
  · intro y hy
    simp only [List.mem_cons, List.mem_nil_iff, or_false] at hy
    rcases hy with rfl | rfl | rfl
    · rfl
    · rfl
    · rfl
  · have X1 : K.In h₁ := X.keeps hk₁
    have Lx : s.heap.objs.size ≠ x := Nat.ne_of_gt (Heap.lt_size hx)
    have k1 : ∀ b o, hp.get? b = some o → h₁.get? b = some o := fun b o e => hk₁ _ _ (kh _ _ e)
    obtain ⟨cd, hcl, href, hdc⟩ := T.ref
    obtain ⟨oC, hC1, hC2⟩ : ∃ oC, h₁.get? C = some oC ∧ oC.data = .cls cd := by
      have hcl2 := hcl
      unfold clsIn at hcl2
      split at hcl2
      · rename_i c' d' cd' sl' lC
        cases hcl2
        exact ⟨_, X1 _ _ lC, rfl⟩
      · cases hcl2
    unfold codeB at hcode
    split at hcode
    · rename_i ccl cdd vs ccs lcode
      split at hcode
      · rename_i file tf hvs
        unfold cellB at hcell
        split at hcell
        · rename_i cl cld D csl lcell
          obtain rfl := of_decide_eq_true hcell
          refine ks_wpAt_execs_cons (ks_wpAt_Expr_any (ks_wpAt_MethodCall (pl := _) ?_))
          refine ks_wpAt_super_base (env := ksEnv "NoRoom.__init__" rS s.heap.objs.size fI (.ref cda) cc) rfl rfl (by decide) rfl (X1 _ _ ho) rfl rfl rfl (X1 _ _ lcode) rfl hvs hcode htop ?_
          refine ks_loadName_global rfl rfl (loadGlobal_builtin (env := ksEnv "NoRoom.__init__" rS s.heap.objs.size fI (.ref cda) cc) (G.keeps k1) gs (Bn.keeps k1) (bs.trans (by first | boot_by_name | rfl | kernel_rfl)) ⟨rfl, ?_⟩)
          refine wpAny_loadName_free rfl rfl rfl ⟨_, X1 _ _ lcell, rfl⟩ ?_
          refine wpAny_loadName_local rfl rfl hns (v := .ref x) rfl ?_
          obtain ⟨hh, g, dr, tk, os⟩ := s
          dsimp only at *
          refine ks_wpAny_isType_cls hC1 hC2 ⟨rfl, ?_⟩
          refine ks_wpAny_call_super hC1 hC2 (hk₁ _ _ hx) rfl (fun c e => by cases e) (looks_mroIn X1 T.mroC) (fun h2 hso k2 => ?_)
          have X2 : K.In h2 := X1.keeps k2
          have hx2 : h2.get? x = some (excO D t0) := k2 _ _ (hk₁ _ _ hx)
          have I2 : InstAt h2 x (excO D t0) D none := ⟨hx2, rfl, rfl, trivial⟩
          have hal : alongIn K "__init__" ((cd.mro.dropWhile (· != .ref D)).drop 1) = some (some (.builtin "ValueError.__init__")) := by
            have := T.sup
            unfold ks_superIn at this
            rw [hcl] at this
            exact this
          have hmro : Looks (model prog w) h2 (mroOf (.ref D)) cd.mro := (looks_clsIn X2 hcl).andThen .now
          refine kxs_getMethod kxs_ValueError hso ((S0.keeps k1).keeps k2).opaque hmro rfl X2 hal (I2.type.andThen (looks_subIn X2 T.suV)) (ks_ne X2 I2 hcl) (by decide) ?_
          have k3 : ∀ b o, h2.get? b = some o → (h2.push (kxs_mw "ValueError.__init__" x)).get? b = some o := fun b o e => Heap.get?_push_of_some _ e
          have kall : ∀ b o, hp.get? b = some o → (h2.push (kxs_mw "ValueError.__init__" x)).get? b = some o := fun b o e => k3 _ _ (k2 _ _ (k1 _ _ e))
          have hns3 := (hns.keeps k2).keeps k3
          have F : Fr hp hh.objs.size (h2.push (kxs_mw "ValueError.__init__" x)) (fun y => ([("self", .ref x), ("why", why), ("name", v)] : List (PySem.Str × Value)).reverse.lookup y) := ⟨hns3, kall, hle⟩
          have hL2 : hh.objs.size < h2.objs.size := (hns.keeps k2).lt
          have N : News hp hh.objs.size (h2.push (kxs_mw "ValueError.__init__" x)) [(h2.objs.size, kxs_mw "ValueError.__init__" x), (x, excO D t0)] := by
            intro p hp'
            simp only [List.mem_cons, List.mem_nil_iff, or_false] at hp'
            rcases hp' with rfl | rfl
            · refine ⟨Heap.get?_push_at rfl rfl, Nat.ne_of_gt hL2, ?_⟩
              cases z : hp.get? h2.objs.size with
              | none => rfl
              | some o => exact absurd (Heap.lt_size (k2 _ _ (k1 _ _ z))) (Nat.lt_irrefl _)
            · exact ⟨k3 _ _ hx2, Ne.symm Lx, hxn⟩
          have xu : h2.objs.size ≠ x := Nat.ne_of_gt (Heap.lt_size hx2)
          refine kxs_callWith1 N (List.mem_cons_self) ?_
          show wpAny _ _ (spliced [(false, eval (.Name "why" _) _)]) _ _ _
          refine spliced_cons (wpAny_Name (wpAny_loadName_local rfl rfl hns3 (v := why) rfl ?_) rfl)
          refine spliced_nil ⟨kxs_at N List.mem_cons_self, ?_⟩
          refine kxs_call (t := t0) (dv := none) (c2 := .none) F X0 N PySem.F.excBase_ValueError T.ex List.mem_cons_self (UpdF.tail xu (UpdF.head (fun p hp => by cases hp))) (by show 1 ≤ sizeLine; rw [sizeLine_eq]; decide) (fun t' h' F' N' lt' => ?_)
          have hx' : h'.get? x = some (excObj D t' none .none) := (N' (x, excObj D t' none .none) (by simp)).1
          have X' : K.In h' := X0.keeps F'.keep
          refine wpAt_of_wpAny (wpAny_execs_cons (plainObj_wpAny_Assign_Attribute ?_))
          refine wpAny_Name (wpAny_loadName_local rfl rfl F'.ns (v := v) rfl (wpAny_Name (wpAny_loadName_local rfl rfl F'.ns (v := .ref x) rfl ?_) rfl)) rfl
          refine set_plain X' (ox := excObj D t' none .none) (od := none) ⟨hx', rfl, rfl, trivial⟩ T.sa ?_
          refine exc_osa X' hx' hcl href hdc T.noN (fun h₃ tk₃ dx k₃ dn dne hx₃ hn₃ => ?_)
          show wpAny _ _ (execs _ _) _ _ _
          have hbig : hp.objs.size ≤ h'.objs.size := Nat.le_of_lt (Nat.lt_of_le_of_lt hle F'.ns.lt)
          exact wpAny_execs_nil (hq h₃ tk₃ dx ⟨fun b o e => k₃ b o (fun z => by rw [z, hxn] at e; cases e) (F'.keep _ _ e), ⟨t', hx₃⟩, Nat.le_trans hbig dn, dne, hn₃⟩)
        · cases hcell
      · cases hcode
    · cases hcode
/-- a made NoRoom -/
structure OwnMade (h h' : Heap) (e C d : Addr) (v : Value) : Prop where
  keep : ∀ b o, h.get? b = some o → h'.get? b = some o
  new : h.objs.size ≤ e
  obj : ∃ oe vs, h'.get? e = some oe ∧ oe.cls = .ref C ∧ oe.dict = some d ∧ oe.data = .fields vs ∧ vs[1]? = some .none
  dbig : h.objs.size ≤ d
  dne : d ≠ e
  ns : h'.Ns1 d (fun y => if y = "name" then some v else none)
theorem room_made (T : RoomT K C fI (prog.main.file : Str)) {why v : Value} (X : K.In s.heap) (S0 : StOk s.heap) (G : s.heap.Ns mainGlobals mg) (gs : mg "super" = none) (Bn : s.heap.Ns builtinsNs mb) (bs : mb "super" = bootBuiltins "super")
    (htop : (prog.main.scope.names.lookup ("super" : Str)).isSome = false) (hlim : s.heap.NoLimit) (hroom : A.depth + 1 < recursionLimit)
    (hq : ∀ h' tk e d, OwnMade s.heap h' e C d v → R (.ok (.ret (.ref e))) { s with heap := h', toks := tk }) :
    codeAny (model prog w) A (.call (.ref C) ⟨[why, v], []⟩) R s := by
  obtain ⟨nm, N', qn, bs', bm, hdct, sn, sub, ab, col, dd, k0, k1, k2, k3, k5, hC, hT⟩ := excInit_of X T.ex
  obtain ⟨hp, g, dr, tk, os⟩ := s
  have k : ∀ b o, hp.get? b = some o → ((hp.push (kdv_tup [why, v])).push (excO C hp.objs.size)).get? b = some o := fun b o e => Heap.get?_push_of_some _ (Heap.get?_push_of_some _ e)
  have hget : ((hp.push (kdv_tup [why, v])).push (excO C hp.objs.size)).get? (hp.objs.size + 1) = some (excO C hp.objs.size) := by heap_get
  have hnone : hp.get? (hp.objs.size + 1) = none := by
    cases e : hp.get? (hp.objs.size + 1) with
    | none => rfl
    | some o => exact absurd (Nat.lt_of_succ_lt (Heap.lt_size e)) (Nat.lt_irrefl _)
  refine call_own PySem.F.excBase_ValueError hT hC (looks_findIn X T.iC) (fun self => bind_fn X self T.tC) (by show 2 ≤ sizeLine; rw [sizeLine_eq]; decide) ?_
  refine room_init (s := ⟨(hp.push (kdv_tup [why, v])).push (excO C hp.objs.size), g, dr, tk, os⟩) T X S0 G gs Bn bs htop k (by show hp.objs.size ≤ ((hp.push (kdv_tup [why, v])).push (excO C hp.objs.size)).objs.size; rw [Heap.size_push, Heap.size_push]; omega) (hlim.keeps k) hget hnone ?_ fun h' tk' dx ⟨k', ⟨t2, hx⟩, dn, dne, hns⟩ => ?_
  · show A.depth + 1 < recursionLimit
    exact hroom
  · exact ⟨rfl, hq h' tk' (hp.objs.size + 1) dx ⟨k', Nat.le_succ _, ⟨_, _, hx, rfl, rfl, rfl, rfl⟩, dn, dne, hns⟩⟩
end
end K74R
end PySem
namespace K74
open PySem PySem.Spec PyProof.Rows L2
theorem relO_room {v : V} {v' : Value} (r : RelV v v') (f : Str) : RelO (List.lookup f [(("name" : Str), v)]) (if f = "name" then some v' else none) := by
  by_cases hw : f = "name"
  · subst hw
    rw [if_pos rfl]
    have q : List.lookup ("name" : Str) [(("name" : Str), v)] = some v := by simp [List.lookup]
    rw [q]
    exact r
  · rw [if_neg hw]
    have qw : (f == ("name" : Str)) = false := by simpa using hw
    have q2 : List.lookup f [(("name" : Str), v)] = none := by simp [List.lookup, qw]
    rw [q2]
    trivial
/-- what the program must be for NoRoom to be made -/
structure Zx (P : Program) (K : PySem.W.Frag) (mg : Str → Option Value) (base : Heap) : Prop where
  st : PySem.K74R.StOk base
  top : (P.main.scope.names.lookup ("super" : Str)).isSome = false
  room : PySem.K74R.RoomT K (He.ga K "NoRoom") (He.ma K (He.ga K "NoRoom") "__init__") (P.main.file : Str)
  exC : PySem.W.subIn K (.ref (He.ga K "NoRoom")) (.type "BaseException") = some true
  tyC : PySem.W.typeIn K (.ref (He.ga K "NoRoom")) = some (.type "type")
section
variable {X : Cx}
/-- NoRoom(why, name) -/
def tMkRoom (C : Addr) (ta : TA) : L2.St → Hp → XK → Prop := fun σ H Q => ta σ H fun vs H1 => ∃ u v, vs = [u, v] ∧ ∀ d, H1 d = none → Q (.ref C) (some d) (upd H1 d (.xd [(("name" : Str), v)]))
theorem pmk_room {a b : PySem.Expr} {ta : TA} {p pos : Pos} {k : Nat} (T : Tx X.K X.mg) (Z : Zx X.prog X.K X.mg X.base) (hr : Room k X.A) (ha : PA X [a, b] ta) (hg : Gl X "NoRoom" := by rfl)
    (he : starEach (a :: [b]) X.env = (false, eval a X.env) :: starEach [b] X.env := by rfl) (hpl : (backTo pos (starEach [b] X.env)).any (·.1) = false := by rfl) :
    PMk X (.Call (.Name "NoRoom" p) [a, b] [] pos) (tMkRoom (He.ga X.K "NoRoom") ta) := by
  intro pins s σ H Q I h
  refine wpAny_Call_Name_kw (ld_glob I hg T.g_NoRoom ?_)
  refine PySem.W.callWith_K (h₀ := X.base) I.ok.mod.kin T.p_NoRoom (thn (ha.run pos pins s σ H _ I h) fun us s1 hh => ?_) he hpl
  obtain ⟨vs, H1, I1, r1, u, v, ev, q1⟩ := hh
  subst ev
  refine ⟨I1.kIn, ?_⟩
  obtain ⟨u', v', rfl, ru, rv⟩ := vals2 r1
  show wpAny _ _ (call (.ref (He.ga X.K "NoRoom")) [u', v']) _ _ _
  have hlim := I1.nolimit
  obtain ⟨mb, hb1, hb2⟩ := I1.mod.blt
  have hbs := hb2 "super" (by decide)
  have hG := I1.mod.glob.keeps I1.bk
  have hB := hb1.keeps I1.bk
  have hS := Z.st.keeps I1.bk
  obtain ⟨hp, g, dr, tk, os⟩ := s1
  refine wpAny_call (PySem.K74R.room_made Z.room I1.kIn hS hG T.z_super hB hbs Z.top hlim (by have := hr.dp; omega) fun h' tk' e d M => ?_)
  show MkP X pins σ Q (.ref e) ⟨h', g, dr, tk', os⟩
  obtain ⟨oe, fv, hoe, hc, hd, hdat, h1⟩ := M.obj
  have hns := M.ns
  obtain ⟨G', g1, g2⟩ := restrict h' fun b => decide (b ≠ e)
  have gk : ∀ b, b ≠ e → G'.get? b = h'.get? b := fun b hb => g1 b (decide_eq_true hb)
  have ge : G'.get? e = none := g2 e (by simp)
  have old : ∀ b o, hp.get? b = some o → G'.get? b = some o := fun b o q => (gk b (Nat.ne_of_lt (Nat.lt_of_lt_of_le (Heap.lt_size q) M.new))).trans (M.keep b o q)
  have ob : ObjOk X.prog X.w (upd H1 d (.xd [(("name" : Str), v)])) G' d (.xd [(("name" : Str), v)]) :=
    ⟨_, hns.at (fun o q => (gk d M.dne).trans q), fun f => relO_room rv f⟩
  have J : Inv X pins σ (upd H1 d (.xd [(("name" : Str), v)])) ⟨G', g, dr, tk', os⟩ := I1.laid (t' := tk') old M.dbig ob
  refine ⟨e, oe, fv, ⟨G', g, dr, tk', os⟩, _, .ref (He.ga X.K "NoRoom"), some d, rfl, J, fun b o q => ?_, ge, hoe, ⟨hc, hd⟩, hdat, h1, ?_, rfl, I1.bare, raises_own Z.exC Z.tyC, q1 d (I1.hok.fresh M.dbig)⟩
  · by_cases hb : b = e
    · have q' : G'.get? b = some o := q
      rw [hb, ge] at q'
      cases q'
    · exact (gk b hb).symm.trans q
  · rw [upd_ne (Ne.symm M.dne)]
    exact I1.hok.fresh M.new
end
end K74
set_option Elab.async false
set_option linter.all false
set_option maxRecDepth 100000
set_option maxHeartbeats 4000000
namespace K74
open PySem PySem.Spec PyProof.Rows L2
section
variable {P : Program} {w : World} {K : PySem.W.Frag} {mg : Str → Option Value} {base : Heap}
abbrev N_Machine_start : List Str := ["self", "leaf", "name"]
abbrev P_Machine_start : List Str := ["self", "leaf"]
theorem sc_Machine_start : FnScope N_Machine_start P_Machine_start (defScope s_Machine_start) := C8.fnScope_by (by decide +kernel)
theorem b_Machine_start {K : PySem.W.Frag} {fd : FuncData} (F : FunD K d_Machine_start.name d_Machine_start.qual d_Machine_start.params d_Machine_start.body d_Machine_start.scope (d_Machine_start.dvs K) (d_Machine_start.kws K) (He.fAd K d_Machine_start.at_) fd) : L2.Binds K fd P_Machine_start [] :=
  FunD.bindsN F fun _ _ _ _ _ _ us hl => match us, hl with | [_, _], _ => rfl
def wayU (rs : List RowD) (x : Str) : List Str := (pathR (RR rs) x).reverse ++ [("" : Str)]
theorem wayU_mem {rs : List RowD} {x n : Str} (h : n ∈ wayU rs x) : n = "" ∨ n ∈ nms rs := by
  rcases List.mem_append.mp h with z | z
  · exact .inr (RR_names.mp (path_sub x n (List.mem_reverse.mp z)))
  · exact .inl (List.mem_singleton.mp z)
theorem wayU_len {rs : List RowD} (w : WfD rs) (x : Str) : (wayU rs x).length ≤ 9 := by
  have := w.path_le x
  unfold wayU
  rw [List.length_append, List.length_reverse]
  simp only [List.length_cons, List.length_nil]
  omega
def fullB (c : MC) (v : MV) (n : Str) : Bool := decide (n ∈ c.tn) && decide (c.tS n ≤ runN c.rs v.ps n)
def spStart (K : PySem.W.Frag) : Sp := fun vs H Q E => ∃ (S0 : Hp) (a : MA) (c : MC) (v : MV) (x : Str), vs = [.ref a.me, .str x] ∧ MSt K S0 H a c v ∧ x ∈ lvs c.rs ∧ v.ps.length < 1000 ∧
  (∀ n, (wayU c.rs x).find? (fullB c v) = some n → ∀ d H', H d = none → Ex H H' → H' d = some (.xd [(("name" : Str), .str n)]) → E (cNR K) (some d) H') ∧
  ((wayU c.rs x).find? (fullB c v) = none → ∀ H', Keep (mutA a) H H' → MSt K S0 H' a c { v with ps := v.ps ++ [(v.many, x)], many := v.many + 1 } → Q (.int v.many) H')
theorem find_take {α : Type} {q : α → Bool} {xs : List α} {i : Nat} {x : α} (h : xs[i]? = some x) (h0 : ∀ y, y ∈ xs.take i → q y = false) : (q x = true → xs.find? q = some x) ∧ (q x = false → ∀ y, y ∈ xs.take (i + 1) → q y = false) := by
  refine ⟨fun hq => ?_, fun hq y hy => ?_⟩
  · rw [← List.take_append_drop i xs, List.find?_append]
    have : (xs.take i).find? q = none := by
      rw [List.find?_eq_none]
      intro y hy
      rw [h0 y hy]
      decide
    rw [this]
    obtain ⟨hi, e⟩ := List.getElem?_eq_some_iff.mp h
    rw [List.drop_eq_getElem_cons hi, e]
    simp [hq]
  · rw [List.take_succ, h] at hy
    rcases List.mem_append.mp hy with z | z
    · exact h0 y z
    · have : y = x := by simpa using z
      rw [this]
      exact hq
theorem ok_start (T : Tx K mg) (Z : Zx P K mg base) : Has P w K mg base (CX P w) 12 d_Machine_start P_Machine_start (spStart K) := by
  have H_check_leaf : Has P w K mg base CX0 2 d_check_leaf P_check_leaf (spCkLeaf K) := ok_check_leaf T
  have H_Machine_way_up : Has P w K mg base CX0 4 d_Machine_way_up P_Machine_way_up (spWayUp K) := ok_way_up T
  have H_Machine_running : Has P w K mg base CX0 11 d_Machine_running P_Machine_running (spRunning K) := ok_running T
  refine has_of T _ at_d_Machine_start sc_Machine_start (fun fd F => b_Machine_start F) (fun vs H Q E h => ?_) (fun cdv A outer s H vs Q E hr h => ?_)
  · obtain ⟨S0, a, c, v, x, rfl, _⟩ := h
    rfl
  · obtain ⟨S0, a, c, v, x, rfl, M, hx, hf, k1, k2⟩ := h
    have hu := hu_of hr
    have hw := M.ok.wf
    have hlen := wayU_len hw x
    have nd := sc_Machine_start.nd
    refine ⟨_, (pss_cons (ps_expr (pe_cl H_check_leaf hr (by first | decide | omega) T.g_check_leaf pass0 (pa_cons (peF K rfl (pv 0) rfl) (pa_cons (pv 1) pa_nil))))
        (pss_cons (ps_for (passes_of rfl) rfl (pi_list (pe_ml H_Machine_way_up hr (by first | decide | omega) T.c_Machine T.m_Machine_way_up pass0 (pv 0) (pa_cons (pv 1) pa_nil))) (pg_name (i := 2) nd rfl (Or.inl rfl))
          (pss_one (ps_if (PW.pt (pw_and (pt_cmp (pc_din hu (pv 2) (peF K rfl (pv 0) rfl))) (pw_and1 (pt_cmpR op_ge (pe_ml H_Machine_running hr (by first | decide | omega) T.c_Machine T.m_Machine_running pass0 (pv 0) (pa_cons (pv 2) pa_nil)) (pe_dget hu (peF K rfl (pv 0) rfl) (pv 2) (fun _ _ => rfl)) (nomark _))))) (pss_one (ps_raise rfl (takes_of rfl rfl rfl rfl) (pmk_room T Z hr (pa_cons pe_str (pa_cons (pv 2) pa_nil))))) pss_nil)))
        (pss_cons (ps_dput hu (peF K rfl (pv 0) rfl) (peF K rfl (pv 0) rfl) (pv 1) rfl)
        (pss_cons (ps_fldaug (pv 0) pe_int in_add)
        (pss_one (ps_ret (pe_op op_sub (peF K rfl (pv 0) rfl) pe_int))))))), ?_⟩
    refine ⟨_, rfl, a.me, _, _, _, _, rfl, M.me, T.c_Machine, T.n_Machine_tree, rfl, _, rfl, a.tr, x, c.rs, rfl, M.tr, hx, fun H1 e1 => ?_⟩
    have M1 := M.to e1
    refine ⟨_, rfl, a.me, _, _, rfl, M1.me, rfl, _, rfl, S0, a, c, v, x, rfl, M1, lvs_nms hx, fun p H2 hp e2 h2 => ?_⟩
    have M2 := M1.to e2
    refine ⟨p, rfl, ⟨_, K74.SqL.of' h2⟩, ?_⟩
    refine for_list (K := K) (a := p) (xs := (wayU c.rs x).map V.str) (fun i σ H' => (∃ z, σ = [some (.ref a.me), some (.str x), z]) ∧ Ex H2 H' ∧ ∀ n, n ∈ (wayU c.rs x).take i → fullB c v n = false)
      ⟨⟨_, rfl⟩, Ex.refl _, fun n hn => by cases hn⟩ (fun i σ H' _ q => q.2.1.l (K74.SqL.of' h2)) (fun i y σ H' hy q => ?_) (fun σ H' q => ?_)
    · obtain ⟨⟨z, rfl⟩, e3, h3⟩ := q
      rw [List.getElem?_map] at hy
      obtain ⟨n, hn, rfl⟩ := Option.map_eq_some_iff.mp hy
      obtain ⟨f1, f2⟩ := find_take hn h3
      have M3 := M2.to e3
      have hnm := wayU_mem (List.mem_of_getElem? hn)
      refine ⟨_, rfl, _, rfl, a.me, _, _, _, _, rfl, M3.me, T.c_Machine, T.n_Machine_most_tasks, rfl, a.mt, _, rfl, get_fmO n (.inl M3.Mt), _, rfl, ?_⟩
      by_cases c1 : n ∈ c.tn
      · rw [if_pos c1]
        refine ifT rfl ?_
        refine ⟨_, rfl, a.me, _, _, rfl, M3.me, rfl, _, rfl, S0, a, c, v, n, rfl, M3, hnm, fun H4 e4 => ?_⟩
        have M4 := M3.to e4
        refine ⟨_, rfl, a.me, _, _, _, _, rfl, M4.me, T.c_Machine, T.n_Machine_most_tasks, rfl, _, rfl, a.mt, _, rfl, get_fm (.inl M4.Mt) c1, _, _, rfl, rfl, _, rfl, ?_⟩
        by_cases c2 : c.tS n ≤ runN c.rs v.ps n
        · refine ifT (decide_eq_true c2) ?_
          have hq : fullB c v n = true := by
            unfold fullB
            rw [decide_eq_true c1, decide_eq_true c2]
            rfl
          have e5 := ((e1.trans e2).trans e3).trans e4
          refine ⟨_, rfl, _, _, rfl, fun d hd => ?_⟩
          exact k1 n (f1 hq) d _ (e5.free hd) (e5.trans (Ex.new hd)) upd_same
        · refine ifF (decide_eq_false c2) ⟨⟨_, rfl⟩, e3.trans e4, f2 ?_⟩
          unfold fullB
          rw [decide_eq_false c2, Bool.and_false]
      · rw [if_neg c1]
        refine ifF rfl ⟨⟨_, rfl⟩, e3, f2 ?_⟩
        unfold fullB
        rw [decide_eq_false c1, Bool.false_and]
    · obtain ⟨⟨z, rfl⟩, e3, h3⟩ := q
      rw [List.length_map, take_len] at h3
      have hnone : (wayU c.rs x).find? (fullB c v) = none := by
        rw [List.find?_eq_none]
        intro n hn
        rw [h3 n hn]
        decide
      have M3 := M2.to e3
      refine ⟨_, rfl, _, rfl, a.me, _, _, _, _, rfl, M3.me, T.c_Machine, T.n_Machine_places, rfl, _, rfl, a.me, _, _, _, _, rfl, M3.me, T.c_Machine, T.n_Machine_many, rfl, a.pl, _, rfl, DPut.k (k := Sum.inl v.many) M3.pl (by rw [pk_len, sizeLine_eq]; omega), ?_⟩
      have hnk : v.many ∉ v.ps.map (·.1) := fun h => by
        obtain ⟨p, hp, e⟩ := List.mem_map.mp h
        have := M.vok.lt p hp
        omega
      rw [pk_putNew hnk]
      have hme : (upd H' a.pl (.dK (pk (v.ps ++ [(v.many, x)])))) a.me = some (.ins (He.ga K "Machine") a.dx (mF a v.many)) := by
        rw [upd_ne M3.nmp]
        exact M3.me
      refine ⟨_, rfl, a.me, _, _, _, _, rfl, hme, T.c_Machine, T.n_Machine_many, rfl, _, _, rfl, rfl, _, _, hme, (by show 7 < 1000; decide), ?_⟩
      refine ⟨_, rfl, a.me, _, _, _, .int (v.many + 1), rfl, upd_same, T.c_Machine, T.n_Machine_many, rfl, _, _, rfl, rfl, ?_⟩
      have e : v.many + 1 - 1 = v.many := by omega
      show Q (.int (v.many + 1 - 1)) _
      rw [e]
      have ek := (e1.trans e2).trans e3
      refine k2 hnone _ (Keep.exR ek ((keep_pl (a := a) _).trans (keep_me (a := a) _))) ?_
      exact ⟨(M3.ex.mut M3.npl).mut M3.nme, M3.tree, M3.mt, M3.mp, M3.sf, M3.nme, M3.npl, M3.nsz, M3.ne, upd_same, by rw [upd_ne (Ne.symm M3.nmp)]; exact upd_same, by rw [upd_ne (Ne.symm M3.nms), upd_ne (Ne.symm M3.ne)]; exact M3.sz, M3.ok, M3.vok.more hx hf⟩
end
end K74
set_option Elab.async false
set_option linter.all false
set_option maxRecDepth 100000
set_option maxHeartbeats 4000000
/-! The greatest remainders. -/
namespace K74
open PySem PySem.Spec PyProof.Rows L2
/-- i stands ahead of j: a greater rest, or the same and an earlier place -/
def Ahead (rem : Nat → Int) (i j : Nat) : Prop := rem j < rem i ∨ (rem i = rem j ∧ i < j)
def SortedR (rem : Nat → Int) (n : Nat) (xs : List Nat) : Prop := xs.Perm (List.range n) ∧ xs.Pairwise (Ahead rem)
theorem ahead_asymm {rem : Nat → Int} {i j : Nat} (h : Ahead rem i j) (h2 : Ahead rem j i) : False := by
  rcases h with h | ⟨h, h'⟩ <;> rcases h2 with g | ⟨g, g'⟩ <;> omega
theorem sorted_unique {rem : Nat → Int} : ∀ {xs ys : List Nat}, xs.Perm ys → xs.Pairwise (Ahead rem) → ys.Pairwise (Ahead rem) → xs = ys
  | [], ys, p, _, _ => (List.Perm.nil_eq p)
  | x :: xs, ys, p, hx, hy => by
    cases ys with
    | nil => exact absurd p.length_eq (by simp)
    | cons y ys =>
      have hx2 := List.pairwise_cons.mp hx
      have hy2 := List.pairwise_cons.mp hy
      have e : x = y := by
        apply Classical.byContradiction
        intro ne
        have h1 : x ∈ ys := by
          have : x ∈ y :: ys := p.subset List.mem_cons_self
          exact (List.mem_cons.mp this).resolve_left ne
        have h2 : y ∈ xs := by
          have : y ∈ x :: xs := p.symm.subset List.mem_cons_self
          exact (List.mem_cons.mp this).resolve_left (Ne.symm ne)
        exact ahead_asymm (hx2.1 y h2) (hy2.1 x h1)
      subst e
      rw [sorted_unique (List.Perm.cons_inv p) hx2.2 hy2.2]
def leB (rem : Nat → Int) (i j : Nat) : Bool := decide (rem j < rem i) || (decide (rem i = rem j) && decide (i ≤ j))
theorem sorted_exists (rem : Nat → Int) (n : Nat) : SortedR rem n ((List.range n).mergeSort (leB rem)) := by
  refine ⟨List.mergeSort_perm _ _, ?_⟩
  have h := List.pairwise_mergeSort (le := leB rem) (fun a b c h1 h2 => by
    unfold leB at h1 h2 ⊢
    simp only [Bool.or_eq_true, Bool.and_eq_true, decide_eq_true_eq] at h1 h2 ⊢
    omega) (fun a b => by
    unfold leB
    simp only [Bool.or_eq_true, Bool.and_eq_true, decide_eq_true_eq]
    omega) (List.range n)
  have nd : ((List.range n).mergeSort (leB rem)).Nodup := (List.mergeSort_perm _ _).nodup_iff.mpr List.nodup_range
  have := List.Pairwise.and h nd
  refine this.imp ?_
  intro a b hab
  obtain ⟨h1, h2⟩ := hab
  unfold leB at h1
  simp only [Bool.or_eq_true, Bool.and_eq_true, decide_eq_true_eq] at h1
  unfold Ahead
  omega
/-- the shares of L: N by the greatest remainders; xs: the places by their rests -/
def remOf (L : List Int) (N : Int) (i : Nat) : Int := (N * L.getD i 0) % L.sum
def floorOf (L : List Int) (N : Int) (i : Nat) : Int := (N * L.getD i 0) / L.sum
def leftOf (L : List Int) (N : Int) : Int := N - ((List.range L.length).map (floorOf L N)).sum
def ordOf (L : List Int) (N : Int) : List Nat := (List.range L.length).mergeSort (leB (remOf L N))
theorem ordOf_ok (L : List Int) (N : Int) : SortedR (remOf L N) L.length (ordOf L N) := sorted_exists (remOf L N) L.length
def onesOf (L : List Int) (N : Int) : List Nat := (ordOf L N).take (leftOf L N).toNat
def rnd (L : List Int) (N : Int) : List Int := if N = 0 then L.map fun _ => 0 else (List.range L.length).map fun i => floorOf L N i + if i ∈ onesOf L N then 1 else 0
theorem rnd_len (L : List Int) (N : Int) : (rnd L N).length = L.length := by
  unfold rnd
  split
  · rw [List.length_map]
  · rw [List.length_map, List.length_range]
theorem sum_map_add {α : Type} (f g : α → Int) (xs : List α) : (xs.map fun x => f x + g x).sum = (xs.map f).sum + (xs.map g).sum := by
  induction xs with
  | nil => rfl
  | cons x xs ih =>
    simp only [List.map_cons, List.sum_cons, ih]
    omega
theorem sum_map_mul {α : Type} (c : Int) (f : α → Int) (xs : List α) : (xs.map fun x => c * f x).sum = c * (xs.map f).sum := by
  induction xs with
  | nil => simp
  | cons x xs ih =>
    simp only [List.map_cons, List.sum_cons, ih, Int.mul_add]
theorem sum_map_le {α : Type} (f g : α → Int) (xs : List α) (h : ∀ x, x ∈ xs → f x ≤ g x) : (xs.map f).sum ≤ (xs.map g).sum := by
  induction xs with
  | nil => exact Int.le_refl _
  | cons x xs ih =>
    simp only [List.map_cons, List.sum_cons]
    have h1 := h x List.mem_cons_self
    have h2 := ih fun y hy => h y (List.mem_cons_of_mem _ hy)
    omega
theorem sum_map_const {α : Type} (c : Int) (xs : List α) : (xs.map fun _ => c).sum = c * xs.length := by
  induction xs with
  | nil => simp
  | cons x xs ih =>
    simp only [List.map_cons, List.sum_cons, ih, List.length_cons]
    rw [Int.natCast_add, Int.mul_add]
    omega
theorem range_getD (L : List Int) : (List.range L.length).map (fun i => L.getD i 0) = L := by
  apply List.ext_getElem
  · simp
  · intro i h1 h2
    simp [h2]
/-- what the floors leave is what the rests come to -/
theorem rests_sum (L : List Int) (N : Int) : ((List.range L.length).map (remOf L N)).sum = leftOf L N * L.sum := by
  have h : ((List.range L.length).map fun i => N * L.getD i 0).sum = N * L.sum := by
    rw [sum_map_mul, range_getD]
  have h2 : ((List.range L.length).map fun i => N * L.getD i 0) = (List.range L.length).map fun i => L.sum * floorOf L N i + remOf L N i := by
    apply List.map_congr_left
    intro i _
    exact (Int.mul_ediv_add_emod (N * L.getD i 0) L.sum).symm
  rw [h2, sum_map_add, sum_map_mul] at h
  unfold leftOf
  rw [Int.sub_mul, Int.mul_comm _ L.sum]
  have : ((List.range L.length).map fun x => remOf L N x) = (List.range L.length).map (remOf L N) := rfl
  rw [Int.mul_comm (List.sum _) L.sum]
  have e : ((List.range L.length).map fun x => floorOf L N x) = (List.range L.length).map (floorOf L N) := rfl
  rw [e, this] at h
  rw [Int.mul_comm N]  at h
  omega
theorem rem_range {L : List Int} {N : Int} (hW : 0 < L.sum) (i : Nat) : 0 ≤ remOf L N i ∧ remOf L N i < L.sum := ⟨Int.emod_nonneg _ (by omega), Int.emod_lt_of_pos _ hW⟩
theorem left_range {L : List Int} {N : Int} (hW : 0 < L.sum) : 0 ≤ leftOf L N ∧ leftOf L N ≤ L.length := by
  have h := rests_sum L N
  have h1 : 0 ≤ ((List.range L.length).map (remOf L N)).sum := by
    have := sum_map_le (fun _ => (0 : Int)) (remOf L N) (List.range L.length) fun i _ => (rem_range hW i).1
    rw [sum_map_const] at this
    omega
  have h2 : ((List.range L.length).map (remOf L N)).sum ≤ L.sum * L.length := by
    have := sum_map_le (remOf L N) (fun _ => L.sum) (List.range L.length) fun i _ => Int.le_of_lt (rem_range hW i).2
    rw [sum_map_const, List.length_range] at this
    exact this
  rw [h] at h1 h2
  constructor
  · apply Classical.byContradiction
    intro c
    have : leftOf L N * L.sum < 0 := Int.mul_neg_of_neg_of_pos (by omega) hW
    omega
  · rw [Int.mul_comm] at h2
    exact Int.le_of_mul_le_mul_left h2 hW
/-- the first places of an order: nothing behind them is ahead -/
theorem ahead_take {rem : Nat → Int} {xs : List Nat} (h : xs.Pairwise (Ahead rem)) {t : Nat} {i : Nat} (hi : xs[t]? = some i) : ∀ j, j ∈ xs.drop t → j = i ∨ Ahead rem i j := by
  intro j hj
  obtain ⟨ht, e⟩ := List.getElem?_eq_some_iff.mp hi
  rw [List.drop_eq_getElem_cons ht, e] at hj
  rcases List.mem_cons.mp hj with z | z
  · exact .inl z
  · right
    have hd : (xs.drop t).Pairwise (Ahead rem) := h.sublist (List.drop_sublist _ _)
    rw [List.drop_eq_getElem_cons ht, e] at hd
    exact (List.pairwise_cons.mp hd).1 j z
/-- those that get one more have a rest -/
theorem ones_pos {L : List Int} {N : Int} (hW : 0 < L.sum) {i : Nat} (h : i ∈ onesOf L N) : 0 < remOf L N i := by
  apply Classical.byContradiction
  intro c
  have r0 := (rem_range (N := N) hW i).1
  have hi0 : remOf L N i = 0 := by omega
  obtain ⟨hp, hs⟩ := ordOf_ok L N
  obtain ⟨t, ht, e⟩ := List.mem_iff_getElem.mp h
  unfold onesOf at ht e
  rw [List.length_take] at ht
  rw [List.getElem_take] at e
  have htl : t < (ordOf L N).length := by omega
  have hti : (ordOf L N)[t]? = some i := by rw [List.getElem?_eq_getElem htl, e]
  -- the rests of all: those ahead below the sum, the others nothing
  have hall : ((ordOf L N).map (remOf L N)).sum = leftOf L N * L.sum := by
    rw [← rests_sum]
    exact perm_sum (hp.map _)
  have hsplit : ((ordOf L N).map (remOf L N)).sum = (((ordOf L N).take t).map (remOf L N)).sum + (((ordOf L N).drop t).map (remOf L N)).sum := by
    rw [← List.sum_append, ← List.map_append, List.take_append_drop]
  have hdrop : (((ordOf L N).drop t).map (remOf L N)).sum ≤ 0 := by
    have := sum_map_le (remOf L N) (fun _ => (0 : Int)) ((ordOf L N).drop t) fun j hj => by
      rcases ahead_take hs hti j hj with z | z
      · rw [z]
        omega
      · rcases z with z | z
        · omega
        · omega
    rw [sum_map_const] at this
    omega
  have htake : (((ordOf L N).take t).map (remOf L N)).sum ≤ L.sum * t := by
    have := sum_map_le (remOf L N) (fun _ => L.sum) ((ordOf L N).take t) fun j _ => Int.le_of_lt (rem_range hW j).2
    rw [sum_map_const, List.length_take] at this
    have e2 : (min t (ordOf L N).length : Nat) = t := by omega
    rw [e2] at this
    exact this
  have hlt : (t : Int) < leftOf L N := by omega
  have : L.sum * t < L.sum * leftOf L N := Int.mul_lt_mul_of_pos_left hlt hW
  rw [Int.mul_comm L.sum (leftOf L N)] at this
  omega
/-- shares lie between nothing and the size -/
theorem rnd_range {L : List Int} {N : Int} (hL : ∀ x, x ∈ L → 0 ≤ x) (h0 : 0 ≤ N) (h1 : N ≤ L.sum) {i : Nat} {s r : Int} (hs : L[i]? = some s) (hr : (rnd L N)[i]? = some r) : 0 ≤ r ∧ r ≤ s := by
  have hsp := hL s (List.mem_of_getElem? hs)
  have hg : L.getD i 0 = s := by rw [List.getD_eq_getElem?_getD, hs]; rfl
  unfold rnd at hr
  split at hr
  · rw [List.getElem?_map, hs] at hr
    cases hr
    exact ⟨Int.le_refl _, hsp⟩
  · rename_i hN
    have hW : 0 < L.sum := by omega
    have hi := (List.getElem?_eq_some_iff.mp hs).1
    rw [List.getElem?_map, List.getElem?_range hi] at hr
    cases hr
    have f0 : 0 ≤ floorOf L N i := Int.ediv_nonneg (by rw [hg]; exact Int.mul_nonneg h0 hsp) (Int.le_of_lt hW)
    have dm := Int.mul_ediv_add_emod (N * L.getD i 0) L.sum
    have dm2 : L.sum * floorOf L N i + remOf L N i = N * s := by rw [hg] at dm; unfold floorOf remOf; rw [hg]; exact dm
    have up : N * s ≤ L.sum * s := Int.mul_le_mul_of_nonneg_right h1 hsp
    dsimp only
    split
    · rename_i hm
      have hp := ones_pos hW hm
      refine ⟨by omega, ?_⟩
      have : L.sum * floorOf L N i < L.sum * s := by omega
      have := Int.lt_of_mul_lt_mul_left this (Int.le_of_lt hW)
      omega
    · refine ⟨by omega, ?_⟩
      have hp := (rem_range (N := N) hW i).1
      have : L.sum * floorOf L N i ≤ L.sum * s := by omega
      have := Int.le_of_mul_le_mul_left this hW
      omega
/-- the whole: each its size -/
theorem rnd_whole {L : List Int} (hL : ∀ x, x ∈ L → 0 ≤ x) : rnd L L.sum = L := by
  unfold rnd
  split
  · rename_i h
    have : ∀ x, x ∈ L → x = 0 := by
      induction L with
      | nil => intro x hx; cases hx
      | cons y L ih =>
        rw [List.sum_cons] at h
        have hy := hL y List.mem_cons_self
        have hs : 0 ≤ L.sum := by
          have := sum_map_le (fun _ => (0 : Int)) (fun x => x) L fun x hx => hL x (List.mem_cons_of_mem _ hx)
          rw [sum_map_const, List.map_id'] at this
          omega
        intro x hx
        rcases List.mem_cons.mp hx with e | e
        · omega
        · exact ih (fun z hz => hL z (List.mem_cons_of_mem _ hz)) (by omega) x e
    calc L.map (fun _ => (0 : Int)) = L.map (fun x => x) := List.map_congr_left fun x hx => (this x hx).symm
      _ = L := List.map_id' L
  · rename_i h
    have hs : 0 ≤ L.sum := by
      have := sum_map_le (fun _ => (0 : Int)) (fun x => x) L hL
      rw [sum_map_const, List.map_id'] at this
      omega
    have hW : 0 < L.sum := by omega
    have hf : ∀ i, floorOf L L.sum i = L.getD i 0 := fun i => by
      unfold floorOf
      rw [Int.mul_ediv_cancel_left _ (by omega)]
    have hl : leftOf L L.sum = 0 := by
      unfold leftOf
      have : (List.range L.length).map (floorOf L L.sum) = L := by
        calc (List.range L.length).map (floorOf L L.sum) = (List.range L.length).map (fun i => L.getD i 0) := List.map_congr_left fun i _ => hf i
          _ = L := range_getD L
      rw [this]
      omega
    calc (List.range L.length).map (fun i => floorOf L L.sum i + if i ∈ onesOf L L.sum then 1 else 0) = (List.range L.length).map (fun i => L.getD i 0) := by
          apply List.map_congr_left
          intro i _
          rw [hf i, if_neg]
          · omega
          · unfold onesOf
            rw [hl]
            simp
      _ = L := range_getD L
end K74
set_option Elab.async false
set_option linter.all false
set_option maxRecDepth 100000
set_option maxHeartbeats 4000000
/-! The safe part of a leaf: the law's fractions and the program's. -/
namespace K74
open PySem PySem.Spec PyProof.Rows L2
theorem chg_nonneg {rs : List RowD} {ls : List Str} {S : Str → Int} (h : ∀ n, 0 ≤ S n) (x : Str) : 0 ≤ chg rs ls S x := by
  unfold chg
  have := sum_map_le (fun _ => (0 : Int)) S (ls.filter fun l => decide (l ∈ belowR x (RR rs))) fun y _ => h y
  rw [sum_map_const] at this
  omega
theorem chg_le {rs : List RowD} {S : Str → Int} {B : Int} (w : WfD rs) (hB : 0 ≤ B) (h : ∀ n, S n ≤ B) (x : Str) : chg rs (lvs rs) S x ≤ B * 8 := by
  unfold chg
  have h1 := sum_map_le S (fun _ => B) ((lvs rs).filter fun l => decide (l ∈ belowR x (RR rs))) fun y _ => h y
  rw [sum_map_const] at h1
  have h2 := List.length_filter_le (fun l => decide (l ∈ belowR x (RR rs))) (lvs rs)
  have h3 := lvs_len rs
  have h4 := w.few
  have h5 : B * ((lvs rs).filter fun l => decide (l ∈ belowR x (RR rs))).length ≤ B * 8 := Int.mul_le_mul_of_nonneg_left (by omega) hB
  omega
theorem below_leaf {rs : List RowD} (w : WfD rs) {x y : Str} (hx : x ∈ lvs rs) : y ∈ belowR x (RR rs) ↔ y = x := by
  obtain ⟨h1, h2⟩ := mem_lvs.mp hx
  rw [below_mem w.wf]
  constructor
  · rintro (e | ⟨h3, h4⟩)
    · exact e
    · apply Classical.byContradiction
      intro ne
      obtain ⟨c, hc, _⟩ := below_kid w.wf h3 h4 ne
      have := mem_kidsR.mpr hc
      rw [h2] at this
      cases this
  · exact .inl
theorem filter_one {xs : List Str} (nd : xs.Nodup) {x : Str} (h : x ∈ xs) : xs.filter (fun y => decide (y = x)) = [x] := by
  induction xs with
  | nil => cases h
  | cons y xs ih =>
    have nd2 := List.nodup_cons.mp nd
    rcases List.mem_cons.mp h with e | e
    · subst e
      rw [List.filter_cons, if_pos (by simp)]
      have : xs.filter (fun y => decide (y = x)) = [] := by
        rw [List.filter_eq_nil_iff]
        intro z hz
        simp only [decide_eq_true_eq]
        intro e
        exact nd2.1 (e ▸ hz)
      rw [this]
    · rw [List.filter_cons, if_neg, ih nd2.2 e]
      simp only [decide_eq_true_eq]
      intro z
      exact nd2.1 (z ▸ e)
theorem below_leaves {rs : List RowD} (w : WfD rs) {x : Str} (hx : x ∈ lvs rs) : (lvs rs).filter (fun l => decide (l ∈ belowR x (RR rs))) = [x] := by
  rw [← filter_one (lvs_nodup w) hx]
  apply List.filter_congr
  intro y _
  exact decide_eq_decide.mpr (below_leaf w hx)
theorem chg_leaf {rs : List RowD} (w : WfD rs) {S : Str → Int} {x : Str} (hx : x ∈ lvs rs) : chg rs (lvs rs) S x = S x := by
  unfold chg
  rw [below_leaves w hx]
  simp
/-! ### claims, the fractions -/
def clm (rs : List RowD) (kp S : Str → Int) (n : Str) : Int := if chg rs (lvs rs) S n < kp n then chg rs (lvs rs) S n else kp n
def wk (rs : List RowD) (kp S : Str → Int) (x : Str) : Int := ((kids (prs rs) x).map (clm rs kp S)).sum
def parN (rs : List RowD) (n : Str) : Str := match rs.find? (fun r => decide (r.nm = n)) with
  | some r => r.par
  | none => ""
def stepN (cl W : Int) : Option (Int × Int) → Int × Int
  | none => (cl, 1)
  | some p => if W * p.2 ≤ p.1 then (cl, 1) else redF (p.1 * cl) (p.2 * W)
def stepP (cl W : Int) : Option (Int × Int) → Int × Int
  | none => (cl, 1)
  | some p => if p.1 * 1 < W * p.2 then redF ((redF (p.1 * cl) (p.2 * 1)).1 * 1) ((redF (p.1 * cl) (p.2 * 1)).2 * W) else (cl, 1)
def foldN (rs : List RowD) (kp S : Str → Int) (q : Option (Int × Int)) (rest : List Str) : Option (Int × Int) := rest.foldl (fun q c => some (stepN (clm rs kp S c) (wk rs kp S (parN rs c)) q)) q
structure Bd (j : Nat) (p : Int × Int) : Prop where
  t0 : 0 ≤ p.1
  t1 : p.1.natAbs < 2 ^ (220 * j)
  b0 : 0 < p.2
  b1 : p.2.natAbs < 2 ^ (220 * j)
def QRel (j : Nat) : Option (Int × Int) → Option (Int × Int) → Prop
  | none, none => True
  | some p, some q => SameQ p q ∧ Bd j p ∧ Bd j q
  | _, _ => False
theorem pow_up {m n : Nat} {x : Nat} (h : x < 2 ^ m) (e : m ≤ n) : x < 2 ^ n := Nat.lt_of_lt_of_le h (Nat.pow_le_pow_right (by decide) e)
theorem mul_bd {a b : Int} {j : Nat} (ha : a.natAbs < 2 ^ (220 * j)) (hb : b.natAbs < 2 ^ 220) : (a * b).natAbs < 2 ^ (220 * (j + 1)) := by
  rw [Int.natAbs_mul, Nat.mul_add, Nat.mul_one, Nat.pow_add]
  exact Nat.mul_lt_mul'' ha hb
theorem bd_one {j : Nat} {cl : Int} (h0 : 0 ≤ cl) (h1 : cl.natAbs < 2 ^ 220) : Bd (j + 1) (cl, 1) := ⟨h0, pow_up h1 (by omega), (by show (0 : Int) < 1; decide), Nat.lt_of_lt_of_le (by decide : (1 : Nat) < 2 ^ 220) (Nat.pow_le_pow_right (by decide) (by omega))⟩
theorem bd_red {t b : Int} {n : Nat} (ht : 0 ≤ t) (hb : 0 < b) (h1 : t.natAbs < 2 ^ n) (h2 : b.natAbs < 2 ^ n) : 0 ≤ (redF t b).1 ∧ (redF t b).1.natAbs < 2 ^ n ∧ 0 < (redF t b).2 ∧ (redF t b).2.natAbs < 2 ^ n := by
  have a1 := red_nonneg ht hb
  have a2 := red_le_l ht hb
  have a3 := red_pos (t := t) hb
  have a4 := red_le_r (t := t) hb
  exact ⟨a1, by omega, a3, by omega⟩
theorem step_rel {j : Nat} {p q : Option (Int × Int)} {cl W : Int} (h : QRel j p q) (c0 : 0 ≤ cl) (c1 : cl.natAbs < 2 ^ 220) (w0 : 0 ≤ W) (w1 : W.natAbs < 2 ^ 220) : QRel (j + 1) (some (stepP cl W p)) (some (stepN cl W q)) := by
  have one : QRel (j + 1) (some (cl, 1)) (some (cl, 1)) := ⟨SameQ.refl (by show (0 : Int) < 1; decide), bd_one c0 c1, bd_one c0 c1⟩
  cases p with
  | none =>
    cases q with
    | none => exact one
    | some q => exact h.elim
  | some p =>
    cases q with
    | none => exact h.elim
    | some q =>
      obtain ⟨hs, hp, hq⟩ := h
      have hlt := hs.lt W
      unfold stepP stepN
      dsimp only
      by_cases cc : p.1 < W * p.2
      · have cq := hlt.mp cc
        rw [if_pos (by omega), if_neg (by omega)]
        have hW : 0 < W := by
          apply Classical.byContradiction
          intro z
          have : W = 0 := by omega
          rw [this, Int.zero_mul] at cc
          have := hp.t0
          omega
        have hpt : 0 ≤ p.1 * cl := Int.mul_nonneg hp.t0 c0
        have hqt : 0 ≤ q.1 * cl := Int.mul_nonneg hq.t0 c0
        have hqb : 0 < q.2 * W := Int.mul_pos hq.b0 hW
        have hpb : 0 < p.2 * 1 := by have := hp.b0; omega
        have u1 : (p.1 * cl).natAbs < 2 ^ (220 * (j + 1)) := mul_bd hp.t1 c1
        have s1 : SameQ (redF (p.1 * cl) (p.2 * 1)) (p.1 * cl, p.2 * 1) := sameQ_red hpb
        have hu0 := red_nonneg hpt hpb
        have hu1 := red_le_l hpt hpb
        have hu2 := red_pos (t := p.1 * cl) hpb
        have hu3 := red_le_r (t := p.1 * cl) hpb
        have hv : 0 < (redF (p.1 * cl) (p.2 * 1)).2 * W := Int.mul_pos hu2 hW
        have hv1 : ((redF (p.1 * cl) (p.2 * 1)).2 * W).natAbs < 2 ^ (220 * (j + 1)) := mul_bd (Nat.lt_of_le_of_lt (by omega) hp.b1) w1
        have b1 := bd_red (t := (redF (p.1 * cl) (p.2 * 1)).1 * 1) (b := (redF (p.1 * cl) (p.2 * 1)).2 * W) (by omega) hv (by omega) hv1
        have b2 := bd_red (t := q.1 * cl) (b := q.2 * W) hqt hqb (mul_bd hq.t1 c1) (mul_bd hq.b1 w1)
        refine ⟨?_, ⟨b1.1, b1.2.1, b1.2.2.1, b1.2.2.2⟩, ⟨b2.1, b2.2.1, b2.2.2.1, b2.2.2.2⟩⟩
        have s2 : SameQ ((redF (p.1 * cl) (p.2 * 1)).1 * 1, (redF (p.1 * cl) (p.2 * 1)).2 * W) ((p.1 * cl) * 1, (p.2 * 1) * W) := s1.step hW
        have s3 : SameQ (p.1 * cl, p.2 * W) (q.1 * cl, q.2 * W) := hs.step hW
        have s4 : SameQ ((redF (p.1 * cl) (p.2 * 1)).1 * 1, (redF (p.1 * cl) (p.2 * 1)).2 * W) (p.1 * cl, p.2 * W) := by
          have e1 : p.1 * cl * 1 = p.1 * cl := Int.mul_one _
          have e2 : p.2 * 1 * W = p.2 * W := by rw [Int.mul_one]
          rw [← e1, ← e2]
          rw [e1]
          rw [e1] at s2
          exact s2
        exact ((sameQ_red hv).trans s4).trans (s3.trans (sameQ_red hqb).symm)
      · have cq : ¬ q.1 < W * q.2 := fun z => cc (hlt.mpr z)
        rw [if_neg (by omega), if_pos (by omega)]
        exact one
/-- rounding what is left above the part -/
def frV (s : Int) (q : Int × Int) : Int := (s * q.2 - q.1) / q.2
theorem frV_same {s : Int} {p q : Int × Int} (h : SameQ p q) : (redF (s * p.2 - p.1 * 1) (1 * p.2)).1 / (redF (s * p.2 - p.1 * 1) (1 * p.2)).2 = frV s q := by
  have hb : 0 < 1 * p.2 := by have := h.1; omega
  rw [red_floor hb, Int.one_mul, Int.mul_one]
  exact h.floor s
theorem step_claim {cl W : Int} {q : Option (Int × Int)} {j : Nat} (h : ∀ p, q = some p → Bd j p) (c0 : 0 ≤ cl) (w0 : 0 ≤ W) : 0 < (stepN cl W q).2 ∧ 0 ≤ (stepN cl W q).1 ∧ (stepN cl W q).1 ≤ cl * (stepN cl W q).2 := by
  cases q with
  | none => exact ⟨by show (0 : Int) < 1; decide, c0, by show cl ≤ cl * 1; omega⟩
  | some p =>
    have hb := h p rfl
    unfold stepN
    dsimp only
    split
    · exact ⟨by show (0 : Int) < 1; decide, c0, by show cl ≤ cl * 1; omega⟩
    · rename_i cc
      have hW : 0 < W := by
        apply Classical.byContradiction
        intro z
        have : W = 0 := by omega
        rw [this, Int.zero_mul] at cc
        have := hb.t0
        omega
      have hpt : 0 ≤ p.1 * cl := Int.mul_nonneg hb.t0 c0
      have hpb : 0 < p.2 * W := Int.mul_pos hb.b0 hW
      refine ⟨red_pos hpb, red_nonneg hpt hpb, ?_⟩
      have e := red_eq (t := p.1 * cl) hpb
      have h2 := red_pos (t := p.1 * cl) hpb
      have up : p.1 * cl ≤ cl * (p.2 * W) := by
        rw [Int.mul_comm p.1 cl]
        apply Int.mul_le_mul_of_nonneg_left _ c0
        rw [Int.mul_comm p.2 W]
        omega
      have : (redF (p.1 * cl) (p.2 * W)).1 * (p.2 * W) ≤ (cl * (redF (p.1 * cl) (p.2 * W)).2) * (p.2 * W) := by
        rw [e]
        calc p.1 * cl * (redF (p.1 * cl) (p.2 * W)).2 ≤ cl * (p.2 * W) * (redF (p.1 * cl) (p.2 * W)).2 := Int.mul_le_mul_of_nonneg_right up (Int.le_of_lt h2)
          _ = cl * (redF (p.1 * cl) (p.2 * W)).2 * (p.2 * W) := by rw [Int.mul_assoc, Int.mul_comm (p.2 * W), ← Int.mul_assoc]
      exact Int.le_of_mul_le_mul_right this hpb
theorem frV_range {s cl : Int} {q : Int × Int} (h0 : 0 < q.2) (h1 : 0 ≤ q.1) (h2 : q.1 ≤ cl * q.2) (h3 : cl ≤ s) : 0 ≤ frV s q ∧ frV s q ≤ s := by
  have hs : cl * q.2 ≤ s * q.2 := Int.mul_le_mul_of_nonneg_right h3 (Int.le_of_lt h0)
  unfold frV
  refine ⟨Int.ediv_nonneg (by omega) (Int.le_of_lt h0), ?_⟩
  have := Int.ediv_le_ediv h0 (show s * q.2 - q.1 ≤ s * q.2 by omega)
  rw [Int.mul_ediv_cancel _ (by omega)] at this
  exact this
/-- the parent of a row's name -/
theorem parN_of {rs : List RowD} (w : WfD rs) {c x : Str} (h : c ∈ kids (prs rs) x) : parN rs c = x := by
  obtain ⟨r, hr, h1, h2⟩ := mem_RR.mp (mem_kidsR.mp h)
  have e := w.row hr
  unfold parN
  have : rs.find? (fun q => decide (q.nm = c)) = some r := by
    rw [← List.head?_filter, ← h1, e]
    rfl
  rw [this]
  exact h2
/-- the free pages of a leaf, taking back at a name -/
def freeF (rs : List RowD) (kp S : Str → Int) (name x : Str) : Int := if x = name then 0 else match foldN rs kp S none ((pathR (RR rs) x).drop (pathR (RR rs) name).length) with
  | some q => frV (S x) q
  | none => 0
structure KSOk (rs : List RowD) (kp S : Str → Int) : Prop where
  k0 : ∀ n, 0 ≤ kp n
  s0 : ∀ n, 0 ≤ S n
  s1 : ∀ n, S n < 10 ^ 60
section
variable {rs : List RowD} {kp S : Str → Int}
theorem KSOk.chg_lt (w : WfD rs) (h : KSOk rs kp S) (x : Str) : chg rs (lvs rs) S x ≤ 10 ^ 61 := by
  have := chg_le w (B := 10 ^ 60) (by decide) (fun n => Int.le_of_lt (h.s1 n)) x
  omega
theorem KSOk.cl0 (h : KSOk rs kp S) (n : Str) : 0 ≤ clm rs kp S n := by
  unfold clm
  have := chg_nonneg (rs := rs) (ls := lvs rs) h.s0 n
  have := h.k0 n
  split <;> omega
theorem KSOk.cl_le (h : KSOk rs kp S) (n : Str) : clm rs kp S n ≤ chg rs (lvs rs) S n := by
  unfold clm
  split <;> omega
theorem KSOk.cl1 (w : WfD rs) (h : KSOk rs kp S) (n : Str) : (clm rs kp S n).natAbs < 2 ^ 220 := by
  have h1 := h.cl0 n
  have h2 := h.cl_le n
  have h3 := h.chg_lt w n
  have : (10 : Int) ^ 61 < 2 ^ 220 := by decide
  omega
theorem KSOk.w0 (h : KSOk rs kp S) (x : Str) : 0 ≤ wk rs kp S x := by
  unfold wk
  have := sum_map_le (fun _ => (0 : Int)) (clm rs kp S) (kids (prs rs) x) fun y _ => h.cl0 y
  rw [sum_map_const] at this
  omega
theorem KSOk.w1 (w : WfD rs) (h : KSOk rs kp S) (x : Str) : (wk rs kp S x).natAbs < 2 ^ 220 := by
  have h0 := h.w0 x
  have h1 := sum_map_le (clm rs kp S) (fun _ => (10 : Int) ^ 61) (kids (prs rs) x) fun y _ => Int.le_trans (h.cl_le y) (h.chg_lt w y)
  rw [sum_map_const] at h1
  have h2 := kids_len rs x
  have h3 := w.few
  have h4 : (10 : Int) ^ 61 * (kids (prs rs) x).length ≤ 10 ^ 61 * 8 := Int.mul_le_mul_of_nonneg_left (by omega) (by decide)
  have h5 : (10 : Int) ^ 61 * 8 < 2 ^ 220 := by decide
  have : wk rs kp S x < 2 ^ 220 := by
    unfold wk
    omega
  omega
theorem fold_bd (w : WfD rs) (h : KSOk rs kp S) : ∀ (rest : List Str) (j : Nat) (q : Option (Int × Int)), QRel j q q → QRel (j + rest.length) (foldN rs kp S q rest) (foldN rs kp S q rest)
  | [], j, q, hq => hq
  | c :: r, j, q, hq => by
    have hs := step_rel hq (h.cl0 c) (h.cl1 w c) (h.w0 (parN rs c)) (h.w1 w (parN rs c))
    have hq2 : QRel (j + 1) (some (stepN (clm rs kp S c) (wk rs kp S (parN rs c)) q)) (some (stepN (clm rs kp S c) (wk rs kp S (parN rs c)) q)) := ⟨SameQ.refl hs.2.2.b0, hs.2.2, hs.2.2⟩
    have := fold_bd w h r (j + 1) _ hq2
    rw [List.length_cons]
    have e : j + (r.length + 1) = j + 1 + r.length := by omega
    rw [e]
    exact this
/-- free pages lie between nothing and the size -/
theorem freeF_range (w : WfD rs) (h : KSOk rs kp S) {name x : Str} (hx : x ∈ lvs rs) : 0 ≤ freeF rs kp S name x ∧ freeF rs kp S name x ≤ S x := by
  unfold freeF
  split
  · exact ⟨Int.le_refl _, h.s0 x⟩
  · generalize hr : (pathR (RR rs) x).drop (pathR (RR rs) name).length = rest
    cases hf : rest.reverse with
    | nil =>
      have : rest = [] := List.reverse_eq_nil_iff.mp hf
      subst this
      exact ⟨Int.le_refl _, h.s0 x⟩
    | cons c r =>
      have er : rest = r.reverse ++ [c] := by
        have := congrArg List.reverse hf
        simpa using this
      have hc : c = x := by
        obtain ⟨l, hl⟩ := path_last (RR_names.mpr ((mem_lvs.mp hx).1))
        have h1 : (pathR (RR rs) x).getLast? = some x := by rw [hl]; simp
        have h2 : rest.getLast? = some c := by rw [er]; simp
        rw [← hr, List.getLast?_drop] at h2
        split at h2
        · cases h2
        · rw [h1] at h2
          exact (Option.some.inj h2).symm
      subst hc
      have ef : foldN rs kp S none rest = some (stepN (clm rs kp S c) (wk rs kp S (parN rs c)) (foldN rs kp S none r.reverse)) := by
        rw [er]
        unfold foldN
        rw [List.foldl_append]
        rfl
      rw [ef]
      have hb := fold_bd w h r.reverse 0 none trivial
      have hs := step_claim (cl := clm rs kp S c) (W := wk rs kp S (parN rs c)) (q := foldN rs kp S none r.reverse) (j := 0 + r.reverse.length) (fun p hp => by
        rw [hp] at hb
        exact hb.2.1) (h.cl0 c) (h.w0 _)
      exact frV_range hs.1 hs.2.1 hs.2.2 (by rw [← chg_leaf w (S := S) hx]; exact h.cl_le c)
end
end K74
set_option Elab.async false
set_option linter.all false
set_option maxRecDepth 100000
set_option maxHeartbeats 4000000
namespace K74
open PySem PySem.Spec PyProof.Rows L2
section
variable {P : Program} {w : World} {K : PySem.W.Frag} {mg : Str → Option Value} {base : Heap}
abbrev N_Machine_free_below : List Str := ["self", "name", "own", "found", "children", "claims", "whole", "child", "part"]
abbrev P_Machine_free_below : List Str := ["self", "name", "own", "found"]
theorem sc_Machine_free_below : FnScope N_Machine_free_below P_Machine_free_below (defScope s_Machine_free_below) := C8.fnScope_by (by decide +kernel)
theorem b_Machine_free_below {K : PySem.W.Frag} {fd : FuncData} (F : FunD K d_Machine_free_below.name d_Machine_free_below.qual d_Machine_free_below.params d_Machine_free_below.body d_Machine_free_below.scope (d_Machine_free_below.dvs K) (d_Machine_free_below.kws K) (He.fAd K d_Machine_free_below.at_) fd) : L2.Binds K fd P_Machine_free_below [] :=
  FunD.bindsN F fun _ _ _ _ _ _ us hl => match us, hl with | [_, _, _, _], _ => rfl
def kpF (c : MC) (n : Str) : Int := if n ∈ c.sn then c.sS n else 0
def lkO (fs : List Str) (F : Str → Int) (y : Str) : Option Int := if y ∈ fs then some (F y) else none
theorem ksok {c : MC} {v : MV} (h : McOk c) (k : MvOk c v) : KSOk c.rs (kpF c) v.S := by
  refine ⟨fun n => ?_, k.pos, k.small⟩
  unfold kpF
  split
  · exact (h.sn n (by assumption)).2
  · exact Int.le_refl _
def OwnR (K : PySem.W.Frag) (H : Hp) (v : V) : Option (Int × Int) → Prop
  | none => v = .non
  | some p => ∃ o, v = .ref o ∧ SqT K H o [.int p.1, .int p.2]
theorem OwnR.keep {H H' : Hp} (e : KeepT H H') {v : V} {p : Option (Int × Int)} (h : OwnR K H v p) : OwnR K H' v p := by
  cases p with
  | none => exact h
  | some p =>
    obtain ⟨o, h1, h2⟩ := h
    exact ⟨o, h1, e.t h2⟩
/-- all but one dict -/
theorem keep1_t {f : Addr} {kvs : List (Key × V)} {H H' : Hp} {a : Addr} {xs : List V} (k : Keep [f] H H') (hf : H f = some (.dK kvs)) (h : SqT K H a xs) : SqT K H' a xs := by
  rcases h with h | h
  · rcases h with h | ⟨o, h⟩
    · exact .inl (.inl (k _ _ h fun z => by rw [List.mem_singleton.mp z, hf] at h; cases h))
    · exact .inl (.inr ⟨o, k _ _ h fun z => by rw [List.mem_singleton.mp z, hf] at h; cases h⟩)
  · exact .inr h
theorem keep1_l {f : Addr} {kvs : List (Key × V)} {H H' : Hp} {a : Addr} {xs : List V} (k : Keep [f] H H') (hf : H f = some (.dK kvs)) (h : SqL K H a xs) : SqL K H' a xs := by
  rcases h with h | h
  · rcases h with h | ⟨o, h⟩
    · exact .inl (.inl (k _ _ h fun z => by rw [List.mem_singleton.mp z, hf] at h; cases h))
    · exact .inl (.inr ⟨o, k _ _ h fun z => by rw [List.mem_singleton.mp z, hf] at h; cases h⟩)
  · exact .inr h
theorem MSt.keepF {S0 H H' : Hp} {a : MA} {c : MC} {v : MV} {f : Addr} (h : MSt K S0 H a c v) (k : Keep [f] H H') (hf : S0 f = none) (hn : f ∉ mutA a) : MSt K S0 H' a c v := by
  simp only [List.mem_cons, List.mem_nil_iff, or_false, not_or] at hn
  refine ⟨fun b o hb => k b o (h.ex b o hb) (fun z => ?_), h.tree, h.mt, h.mp, h.sf, h.nme, h.npl, h.nsz, h.ne, k _ _ h.me (fun z => hn.1 (List.mem_singleton.mp z).symm), k _ _ h.pl (fun z => hn.2.1 (List.mem_singleton.mp z).symm), k _ _ h.sz (fun z => hn.2.2 (List.mem_singleton.mp z).symm), h.ok, h.vok⟩
  rw [List.mem_singleton.mp z, hf] at hb
  cases hb
def valB (c : MC) (v : MV) (q : Option (Int × Int)) (x y : Str) : Int := frV (v.S y) ((foldN c.rs (kpF c) v.S q ((pathR (RR c.rs) y).drop (pathR (RR c.rs) x).length)).getD (0, 1))
def spFreeBelow (K : PySem.W.Frag) (n : Nat) : Sp := fun vs H Q _ => ∃ (S0 : Hp) (a : MA) (c : MC) (v : MV) (x : Str) (ov : V) (f : Addr) (p q : Option (Int × Int)) (fs : List Str) (F : Str → Int), vs = [.ref a.me, .str x, ov, .ref f] ∧ MSt K S0 H a c v ∧ (x = "" ∨ x ∈ nms c.rs) ∧ 9 ≤ (pathR (RR c.rs) x).length + n ∧
  OwnR K H ov p ∧ QRel (pathR (RR c.rs) x).length p q ∧ H f = some (.dK (fm fs F)) ∧ S0 f = none ∧ f ∉ mutA a ∧ fs.Nodup ∧ (∀ y, y ∈ fs → y ∈ nms c.rs) ∧
  ∀ H' fs' F', Keep [f] H H' → H' f = some (.dK (fm fs' F')) → fs'.Nodup → (∀ y, y ∈ fs' → y ∈ nms c.rs) →
    (∀ y, lkO fs' F' y = if y ∈ lvs c.rs ∧ y ≠ x ∧ InB ("" : Str) (RR c.rs) x y then some (valB c v q x y) else lkO fs F y) → Q .non H'
theorem lkO_set {fs : List Str} {F : Str → Int} {n : Str} {z : Int} (nd : fs.Nodup) {P : Str → Prop} (hP : ∀ y, y ∈ fs → P y) (hn : P n) : ∃ fs' F', putK (fm fs F) (Sum.inr n) (.int z) = fm fs' F' ∧ fs'.Nodup ∧ (∀ y, y ∈ fs' → P y) ∧ ∀ y, lkO fs' F' y = if y = n then some z else lkO fs F y := by
  by_cases h : n ∈ fs
  · refine ⟨fs, setS F n z, fm_put h, nd, hP, fun y => ?_⟩
    unfold lkO setS
    by_cases e : y = n
    · rw [if_pos e, if_pos e, if_pos (e ▸ h)]
    · rw [if_neg e, if_neg e]
  · refine ⟨fs ++ [n], setS F n z, fm_putNew h, List.nodup_append.mpr ⟨nd, by simp, fun a ha b hb e => h (by rw [List.mem_singleton.mp hb] at e; exact e ▸ ha)⟩, fun y hy => ?_, fun y => ?_⟩
    · rcases List.mem_append.mp hy with e | e
      · exact hP y e
      · rw [List.mem_singleton.mp e]
        exact hn
    · unfold lkO setS
      by_cases e : y = n
      · rw [if_pos e, if_pos e, if_pos (by rw [e]; simp)]
      · rw [if_neg e, if_neg e]
        by_cases e2 : y ∈ fs
        · rw [if_pos e2, if_pos (List.mem_append_left _ e2)]
        · rw [if_neg e2, if_neg (fun z => (List.mem_append.mp z).elim e2 fun z => e (List.mem_singleton.mp z))]
theorem frac_bd {j : Nat} {p : Int × Int} (h : Bd j p) (hj : j ≤ 9) : p.1.natAbs < 2 ^ 4000 ∧ p.2.natAbs < 2 ^ 4000 := ⟨pow_up h.t1 (by omega), pow_up h.b1 (by omega)⟩
theorem val_kid {c : MC} {v : MV} (w : WfD c.rs) {q : Option (Int × Int)} {x ch y : Str} (h : ch ∈ kids (prs c.rs) x) (hy : ch ∈ pathR (RR c.rs) y) :
    valB c v q x y = valB c v (some (stepN (clm c.rs (kpF c) v.S ch) (wk c.rs (kpF c) v.S x) q)) ch y := by
  unfold valB
  rw [rest_kid w.wf (mem_kidsR.mp h) hy]
  show frV (v.S y) ((foldN c.rs (kpF c) v.S (some (stepN (clm c.rs (kpF c) v.S ch) (wk c.rs (kpF c) v.S (parN c.rs ch)) q)) _).getD (0, 1)) = _
  rw [parN_of w h]
theorem val_self {c : MC} {v : MV} {s : Int × Int} (ch : Str) : valB c v (some s) ch ch = frV (v.S ch) s := by
  unfold valB
  rw [List.drop_length]
  rfl
def undB (c : MC) (x : Str) (i : Nat) (y : Str) : Bool := ((kids (prs c.rs) x).take i).any fun d => decide (d ∈ pathR (RR c.rs) y)
theorem undB_iff {c : MC} {x y : Str} {i : Nat} : undB c x i y = true ↔ ∃ d, d ∈ (kids (prs c.rs) x).take i ∧ d ∈ pathR (RR c.rs) y := by
  unfold undB
  rw [List.any_eq_true]
  simp only [decide_eq_true_eq]
theorem val_step {c : MC} {v : MV} (w : WfD c.rs) {q : Option (Int × Int)} {x ch : Str} {i : Nat} {fs fs1 fs2 : List Str} {F F1 F2 : Str → Int} (hc : (kids (prs c.rs) x)[i]? = some ch)
    (h1 : ∀ y, lkO fs1 F1 y = if y ∈ lvs c.rs ∧ undB c x i y = true then some (valB c v q x y) else lkO fs F y)
    (h2 : ∀ y, lkO fs2 F2 y = if y ∈ lvs c.rs ∧ ch ∈ pathR (RR c.rs) y then some (valB c v q x y) else lkO fs1 F1 y) :
    ∀ y, lkO fs2 F2 y = if y ∈ lvs c.rs ∧ undB c x (i + 1) y = true then some (valB c v q x y) else lkO fs F y := by
  intro y
  have et : (kids (prs c.rs) x).take (i + 1) = (kids (prs c.rs) x).take i ++ [ch] := by
    rw [List.take_succ, hc]
    rfl
  have key : undB c x (i + 1) y = true ↔ undB c x i y = true ∨ ch ∈ pathR (RR c.rs) y := by
    rw [undB_iff, undB_iff, et]
    constructor
    · rintro ⟨d, h4, h5⟩
      rcases List.mem_append.mp h4 with z | z
      · exact .inl ⟨d, z, h5⟩
      · rw [List.mem_singleton.mp z] at h5
        exact .inr h5
    · rintro (⟨d, h4, h5⟩ | h)
      · exact ⟨d, List.mem_append_left _ h4, h5⟩
      · exact ⟨ch, by simp, h⟩
  rw [h2, h1]
  by_cases c1 : y ∈ lvs c.rs ∧ ch ∈ pathR (RR c.rs) y
  · rw [if_pos c1, if_pos ⟨c1.1, key.mpr (.inr c1.2)⟩]
  · rw [if_neg c1]
    by_cases c2 : y ∈ lvs c.rs ∧ undB c x i y = true
    · rw [if_pos c2, if_pos ⟨c2.1, key.mpr (.inl c2.2)⟩]
    · rw [if_neg c2, if_neg]
      rintro ⟨h3, h4⟩
      rcases key.mp h4 with z | z
      · exact c2 ⟨h3, z⟩
      · exact c1 ⟨h3, z⟩
theorem ok_free_below (T : Tx K mg) : ∀ n, Has P w K mg base CX0 (n + 12) d_Machine_free_below P_Machine_free_below (spFreeBelow K n) := by
  intro n
  induction n with
  | zero =>
    refine Has.mono (k := 1) ?_ (by omega)
    refine has0 T _ at_d_Machine_free_below sc_Machine_free_below (fun fd F => b_Machine_free_below F) (fun vs H Q E h => ?_) (fun cdv A outer s H vs Q E hr h => ?_)
    · obtain ⟨S0, a, c, v, x, ov, f, p, q, fs, F, rfl, _⟩ := h
      rfl
    · obtain ⟨S0, a, c, v, x, ov, f, p, q, fs, F, rfl, M, hx, hn, _⟩ := h
      have := M.ok.wf.path_le x
      omega
  | succ n ih =>
    have H_Machine_free_below : Has P w K mg base CX0 (n + 12) d_Machine_free_below P_Machine_free_below (spFreeBelow K n) := ih
    have H_Machine_charged : Has P w K mg base CX0 11 d_Machine_charged P_Machine_charged (spMCharged K) := ok_charged T
    have H_is_below : Has P w K mg base CX0 1 d_is_below P_is_below (spBelow K) := ok_is_below T
    have H_times_of : Has P w K mg base CX0 3 d_times_of P_times_of (spTimes K) := ok_times_of T
    have H_over_of : Has P w K mg base CX0 3 d_over_of P_over_of (spOver K) := ok_over_of T
    have H_minus_of : Has P w K mg base CX0 3 d_minus_of P_minus_of (spMinus K) := ok_minus_of T
    have H_floor_of : Has P w K mg base CX0 1 d_floor_of P_floor_of (spFloor K) := ok_floor_of T
    refine has0 (k := n + 12) T _ at_d_Machine_free_below sc_Machine_free_below (fun fd F => b_Machine_free_below F) (fun vs H Q E h => ?_) (fun cdv A outer s H vs Q E hr h => ?_)
    · obtain ⟨S0, a, c, v, x, ov, f, p, q, fs, F, rfl, _⟩ := h
      rfl
    · obtain ⟨S0, a, c, v, x, ov, f, p, q, fs, F, rfl, M, hx, hn, how, hqr, hf, hf0, hfn, hnd, hsub, k⟩ := h
      have hu := hu_of hr
      have hw := M.ok.wf
      have ks := ksok M.ok M.vok
      have nd := sc_Machine_free_below.nd
      refine ⟨_, (pss_cons (ps_set (i := 4) nd rfl (Or.inl rfl) (pe_dget hu (peF K rfl (peF K rfl (pv 0) rfl) rfl) (pv 1) (fun _ _ => rfl)))
          (pss_cons (ps_set (i := 5) nd rfl (Or.inr rfl) (pe_dc (own := [("child", 7)]) (g := gName 7) (tt := tYes) rfl nd (pi_list (pv 4)) (blkOk_by (N := N_Machine_free_below) (sc := defScope s_Machine_free_below) (by decide +kernel)) (fun _ _ _ _ _ => pg_name (i := 7) nd rfl (Or.inl rfl)) (fun _ _ _ _ _ => pts_nil) (fun _ _ _ _ _ => (pv 7)) (fun _ _ _ _ _ => (pe_callB (call_min2 rfl) (by rfl) T.z_min (by decide +kernel) (pa_cons (pe_dget2 hu (peF K rfl (pv 0) rfl) (pv 7) pe_int ⟨rfl, rfl, rfl, rfl⟩) (pa_cons (pe_ml H_Machine_charged hr (by first | decide | omega) T.c_Machine T.m_Machine_charged pass0 (pv 0) (pa_cons (pv 7) pa_nil)) pa_nil))))))
          (pss_cons (ps_set (i := 6) nd rfl (Or.inl rfl) (pe_callB (cr_sum rfl) (by rfl) T.z_sum (by decide +kernel) (pa_cons (pe_lc (own := [("child", 7)]) (g := gName 7) (tt := tYes) rfl nd (pi_list (pv 4)) (blkOk_by (N := N_Machine_free_below) (sc := defScope s_Machine_free_below) (by decide +kernel)) (fun _ _ _ _ _ => pg_name (i := 7) nd rfl (Or.inl rfl)) (fun _ _ _ _ _ => pts_nil) (fun _ _ _ _ _ => (pe_dget hu (pv 5) (pv 7) (fun _ _ => rfl)))) pa_nil)))
          (pss_one (ps_for PassesOwn.never rfl (pi_list (pv 4)) (pg_name (i := 7) nd rfl (Or.inl rfl))
            (pss_cons (ps_set (i := 8) nd rfl (Or.inl rfl) (pe_tup (pa_cons (pe_dget hu (pv 5) (pv 7) (fun _ _ => rfl)) (pa_cons pe_int pa_nil))))
              (C8.pss_cut (ps_if (PW.pt (pw_and (pt_cmpR op_notN (pv 2) pe_non (nomark _)) (pw_and1 (pt_val (pe_cl H_is_below hr (by first | decide | omega) T.g_is_below pass0 (pa_cons (pv 2) (pa_cons (pe_tup (pa_cons (pv 6) (pa_cons pe_int pa_nil))) pa_nil))))))) (pss_one (ps_set (i := 8) nd rfl (Or.inl rfl) (pe_cl H_over_of hr (by first | decide | omega) T.g_over_of pass0 (pa_cons (pe_cl H_times_of hr (by first | decide | omega) T.g_times_of pass0 (pa_cons (pv 2) (pa_cons (pv 8) pa_nil))) (pa_cons (pe_tup (pa_cons (pv 6) (pa_cons pe_int pa_nil))) pa_nil))))) pss_nil)
              (pss_one (ps_if (pt_cmpR (opEqD K rfl hr.units) (pe_dget hu (peF K rfl (peF K rfl (pv 0) rfl) rfl) (pv 7) (fun _ _ => rfl)) (pe_lst pa_nil) (nomark _)) (pss_one (ps_dput hu (pv 3) (pv 7) (pe_cl H_floor_of hr (by first | decide | omega) T.g_floor_of pass0 (pa_cons (pe_cl H_minus_of hr (by first | decide | omega) T.g_minus_of pass0 (pa_cons (pe_tup (pa_cons (pe_dget hu (peF K rfl (pv 0) rfl) (pv 7) (fun _ _ => rfl)) (pa_cons pe_int pa_nil))) (pa_cons (pv 8) pa_nil))) pa_nil)) rfl)) (pss_one (ps_expr (pe_ml H_Machine_free_below hr (by first | decide | omega) T.c_Machine T.m_Machine_free_below pass0 (pv 0) (pa_cons (pv 7) (pa_cons (pv 8) (pa_cons (pv 3) pa_nil))))))))))))))), ?_⟩
      obtain ⟨dx, ln, bn, bl, bnk, blk, t1, t2, t3, t4, t5, t6, t7⟩ := M.tr
      obtain ⟨ka, a1, a2⟩ := t7 x hx
      refine ⟨_, rfl, a.me, _, _, _, _, rfl, M.me, T.c_Machine, T.n_Machine_tree, rfl, a.tr, _, dx, _, _, rfl, t1, T.c_Tree, T.n_Tree_below, rfl, _, rfl, bl, .ref ka, rfl, .inl ⟨_, Sum.inr x, t6, rfl, a1.symm⟩, ?_⟩
      have hkl : (kids (prs c.rs) x).length ≤ 8 := Nat.le_trans (kids_len c.rs x) hw.few
      -- the claims
      refine ⟨_, rfl, ka, rfl, ⟨_, a2⟩, fun D hD => ?_⟩
      refine dc_b (kids (prs c.rs) x) V.str (fun y => some (Sum.inr y, V.int (clm c.rs (kpF c) v.S y))) hD a2 (by omega) (fun i y H' hy e Q q => ?_) (fun H1 e1 h1 => ?_)
      · have M' := M.to e
        have hyn := kid_name (List.mem_of_getElem? hy)
        refine ⟨rfl, _, rfl, _, rfl, a.me, _, _, _, _, rfl, M'.me, T.c_Machine, T.n_Machine_safe, rfl, a.sf, rfl, .inl ⟨_, .inl M'.Sf⟩, _, rfl, _, get_fmO y (.inl M'.Sf), ?_⟩
        refine ⟨_, rfl, a.me, _, _, rfl, M'.me, rfl, _, rfl, S0, a, c, v, y, rfl, M', .inr hyn, fun H2 e2 => ⟨kpF c y, _, ?_, q H2 e2⟩⟩
        unfold kpF
        split <;> rfl
      · rw [filterMap_some] at h1
        have h1' : H1 D = some (.dK (fm (kids (prs c.rs) x) (clm c.rs (kpF c) v.S))) := by
          rw [h1]
          exact congrArg (fun z => some (HO.dK z)) (fm_mergeNil (kids_nodup hw x))
        have M1 := M.to e1
        -- their sum
        refine ⟨_, rfl, ka, rfl, ⟨_, e1.l a2⟩, fun D2 hD2 => ?_⟩
        refine lc_b (kids (prs c.rs) x) V.str (fun y => some (V.int (clm c.rs (kpF c) v.S y))) hD2 (e1.l a2) (by omega) (fun i y H' hy e Q q => ?_) (fun H2 e2 h2 => ?_)
        · exact ⟨rfl, _, rfl, _, rfl, D, _, rfl, get_fm (.inl (e _ _ h1')) (List.mem_of_getElem? hy), q _ (Ex.refl _)⟩
        · rw [filterMap_some] at h2
          refine ⟨D2, (kids (prs c.rs) x).map (clm c.rs (kpF c) v.S), rfl, K74.SqL.of' (by rw [h2, List.map_map]; rfl), ?_⟩
          have e12 := e1.trans e2
          have M2 := M.to e12
          refine ⟨_, rfl, ka, rfl, ⟨_, e12.l a2⟩, ?_⟩
          have hW : ((kids (prs c.rs) x).map (clm c.rs (kpF c) v.S)).sum = wk c.rs (kpF c) v.S x := rfl
          rw [hW]
          generalize hWg : wk c.rs (kpF c) v.S x = W
          have hW0 : 0 ≤ W := hWg ▸ ks.w0 x
          have hW1 : W.natAbs < 2 ^ 220 := hWg ▸ ks.w1 hw x
          have hpl : (pathR (RR c.rs) x).length ≤ 8 := hw.path_le x
          have hf2 : H2 f = some (.dK (fm fs F)) := e12 _ _ hf
          have nDf : D ≠ f := fun e => by
            rw [e, hf] at hD
            cases hD
          have hD2' : H2 D = some (.dK (fm (kids (prs c.rs) x) (clm c.rs (kpF c) v.S))) := e2 _ _ h1'
          refine for_list (K := K) (a := ka) (xs := (kids (prs c.rs) x).map V.str) (fun i σ H' => (∃ z7 z8, σ = [some (.ref a.me), some (.str x), some ov, some (.ref f), some (.ref ka), some (.ref D), some (.int W), z7, z8]) ∧ Keep [f] H2 H' ∧
              ∃ fs1 F1, H' f = some (.dK (fm fs1 F1)) ∧ fs1.Nodup ∧ (∀ y, y ∈ fs1 → y ∈ nms c.rs) ∧ ∀ y, lkO fs1 F1 y = if y ∈ lvs c.rs ∧ undB c x i y = true then some (valB c v q x y) else lkO fs F y)
            ⟨⟨_, _, rfl⟩, fun _ _ h _ => h, fs, F, hf2, hnd, hsub, fun y => by rw [if_neg]; rintro ⟨_, hd⟩; obtain ⟨d, hd, _⟩ := undB_iff.mp hd; cases hd⟩ (fun i σ H' _ pv => keep1_l pv.2.1 hf2 (e12.l a2)) (fun i z σ H' hz pv => ?_) (fun σ H' pv => ?_)
          · obtain ⟨⟨z7, z8, rfl⟩, kp, fs1, F1, g1, g2, g3, g4⟩ := pv
            rw [List.getElem?_map] at hz
            obtain ⟨ch, hc, rfl⟩ := Option.map_eq_some_iff.mp hz
            have hcm := List.mem_of_getElem? hc
            have hcn := kid_name hcm
            have M' := M2.keepF kp hf0 hfn
            have hD' : H' D = some (.dK (fm (kids (prs c.rs) x) (clm c.rs (kpF c) v.S))) := kp _ _ hD2' (by simpa using nDf)
            refine ⟨_, rfl, _, rfl, D, _, rfl, get_fm (.inl hD') hcm, (by show 2 ≤ sizeLine; decide), fun t ht => ?_⟩
            have c0 := ks.cl0 ch
            have c1 := ks.cl1 hw ch
            generalize hcl : clm c.rs (kpF c) v.S ch = cl at *
            have e3 : Ex H' (upd H' t (.tup [.int cl, .int 1])) := Ex.new ht
            have how' : OwnR K (upd H' t (.tup [.int cl, .int 1])) ov p := by
              cases p with
              | none => exact how
              | some p =>
                obtain ⟨o, h3, h4⟩ := how
                exact ⟨o, h3, e3.t (keep1_t kp hf2 (e12.t h4))⟩
            have hrel := step_rel hqr c0 c1 hW0 hW1
            have hbd := hrel.2.1
            refine ⟨fun σ' H4 => ∃ pt, σ' = [some (.ref a.me), some (.str x), some ov, some (.ref f), some (.ref ka), some (.ref D), some (.int W), some (.str ch), some (.ref pt)] ∧ Ex H' H4 ∧ SqT K H4 pt [.int (stepP cl W p).1, .int (stepP cl W p).2], ?_, fun σ' H4 hM => ?_⟩
            · refine ⟨_, rfl, rfl, _, rfl, ?_⟩
              cases p with
              | none =>
                cases (show ov = .non from how)
                exact ifF rfl ⟨t, rfl, e3, SqT.of upd_same⟩
              | some p =>
                obtain ⟨o, h3, h4⟩ := how'
                subst h3
                refine ifT rfl ?_
                have hbp : Bd (pathR (RR c.rs) x).length p := by
                  cases q with
                  | none => exact hqr.elim
                  | some q => exact hqr.2.1
                have fb := frac_bd hbp (by omega)
                refine ⟨_, rfl, _, rfl, (by show 2 ≤ sizeLine; decide), fun w1 hw1 => ?_⟩
                have e4 : Ex (upd H' t (.tup [.int cl, .int 1])) (upd (upd H' t (.tup [.int cl, .int 1])) w1 (.tup [.int W, .int 1])) := Ex.new hw1
                refine ⟨o, w1, p, (W, 1), rfl, ⟨e4.t h4, SqT.of upd_same, fb.1, fb.2, pow_up hW1 (by omega), (by show (1 : Nat) < 2 ^ 4000; exact Nat.one_lt_two_pow (by decide)), hbp.b0, by show (0 : Int) < 1; decide⟩, _, rfl, ?_⟩
                by_cases cc : p.1 * 1 < W * p.2
                · refine ifT (decide_eq_true cc) ?_
                  have hWp : 0 < W := by
                    apply Classical.byContradiction
                    intro z
                    have : W = 0 := by omega
                    rw [this, Int.zero_mul] at cc
                    have := hbp.t0
                    omega
                  have ht4 : SqT K (upd (upd H' t (.tup [.int cl, .int 1])) w1 (.tup [.int W, .int 1])) t [.int cl, .int 1] := e4.t (SqT.of upd_same)
                  refine ⟨_, rfl, _, rfl, o, t, p, (cl, 1), rfl, ⟨e4.t h4, ht4, fb.1, fb.2, pow_up c1 (by omega), (by show (1 : Nat) < 2 ^ 4000; exact Nat.one_lt_two_pow (by decide)), hbp.b0, by show (0 : Int) < 1; decide⟩, fun r hr' => ?_⟩
                  have e5 : Ex (upd (upd H' t (.tup [.int cl, .int 1])) w1 (.tup [.int W, .int 1])) (upd (upd (upd H' t (.tup [.int cl, .int 1])) w1 (.tup [.int W, .int 1])) r (tupF (redF (p.1 * cl) (p.2 * 1)))) := Ex.new hr'
                  refine ⟨_, rfl, (by show 2 ≤ sizeLine; decide), fun w2 hw2 => ?_⟩
                  have e6 := Ex.new (o := .tup [.int W, .int 1]) hw2
                  have hpt : 0 ≤ p.1 * cl := Int.mul_nonneg hbp.t0 c0
                  have hpb : 0 < p.2 * 1 := by have := hbp.b0; omega
                  have b1 := bd_red (n := 220 * ((pathR (RR c.rs) x).length + 1)) hpt hpb (mul_bd hbp.t1 c1) (by rw [Int.mul_one]; exact pow_up hbp.b1 (by omega))
                  refine ⟨r, w2, redF (p.1 * cl) (p.2 * 1), (W, 1), rfl, ⟨e6.t (SqT.of upd_same), SqT.of upd_same, pow_up b1.2.1 (by omega), pow_up b1.2.2.2 (by omega), pow_up hW1 (by omega), (by show (1 : Nat) < 2 ^ 4000; exact Nat.one_lt_two_pow (by decide)), b1.2.2.1, by show (0 : Int) < 1; decide⟩, hWp, fun pt hpt2 => ?_⟩
                  have e7 := (((e3.trans e4).trans e5).trans e6).trans (Ex.new (o := tupF (redF ((redF (p.1 * cl) (p.2 * 1)).1 * 1) ((redF (p.1 * cl) (p.2 * 1)).2 * W))) hpt2)
                  have es : stepP cl W (some p) = redF ((redF (p.1 * cl) (p.2 * 1)).1 * 1) ((redF (p.1 * cl) (p.2 * 1)).2 * W) := by
                    unfold stepP
                    dsimp only
                    rw [if_pos cc]
                  exact ⟨pt, rfl, e7, by rw [es]; exact SqT.of upd_same⟩
                · refine ifF (decide_eq_false cc) ⟨t, rfl, e3.trans e4, ?_⟩
                  have es : stepP cl W (some p) = (cl, 1) := by
                    unfold stepP
                    dsimp only
                    rw [if_neg cc]
                  rw [es]
                  exact e4.t (SqT.of upd_same)
            · obtain ⟨pt, rfl, e4, hpt⟩ := hM
              have M4 := M'.to e4
              have g14 := e4 _ _ g1
              have k4 : Keep [f] H2 H4 := kp.exL e4
              obtain ⟨dx', ln', bn', bl', bnk', blk', t1', t2', t3', t4', t5', t6', t7'⟩ := M4.tr
              obtain ⟨kc, b1, b2⟩ := t7' ch (.inr hcn)
              refine ⟨_, rfl, a.me, _, _, _, _, rfl, M4.me, T.c_Machine, T.n_Machine_tree, rfl, a.tr, _, dx', _, _, rfl, t1', T.c_Tree, T.n_Tree_below, rfl, _, rfl, bl', .ref kc, rfl, .inl ⟨_, Sum.inr ch, t6', rfl, b1.symm⟩, ?_⟩
              refine ⟨by show 0 ≤ sizeLine; decide, fun q2 hq2 => ?_⟩
              have e5 : Ex H4 (upd H4 q2 (.lst [])) := Ex.new hq2
              refine ⟨.list ((kids (prs c.rs) ch).map PyData.str), .list [], .lst (e5.l b2) (dp_strs _), .lst (K74.SqL.of' upd_same) .nil, shaped_strs (fun y hy => hw.nameOk (kid_name hy)), rfl, ?_⟩
              rw [eqv_strs_nil]
              refine ⟨_, rfl, ?_⟩
              have M5 := M4.to e5
              have g15 := e5 _ _ g14
              have k5 : Keep [f] H2 (upd H4 q2 (.lst [])) := k4.exL e5
              have hfw : fs1.length ≤ 8 := by
                have := nodup_le g2 (ys := nms c.rs) g3
                rw [List.length_map] at this
                have := hw.few
                omega
              by_cases cc : kids (prs c.rs) ch = []
              · refine ifT (decide_eq_true cc) ?_
                have hcl2 : ch ∈ lvs c.rs := mem_lvs.mpr ⟨hcn, cc⟩
                refine ⟨_, rfl, a.me, _, _, _, _, rfl, M5.me, T.c_Machine, T.n_Machine_sizes, rfl, _, rfl, a.sz, _, rfl, get_fm (.inl M5.sz) hcn, (by show 2 ≤ sizeLine; decide), fun u hu' => ?_⟩
                have e6 := Ex.new (o := .tup [.int (v.S ch), .int 1]) hu'
                have fb := frac_bd hbd (by omega)
                have hs1 : (v.S ch).natAbs < 2 ^ 4000 := by
                  have h1 := M.vok.pos ch
                  have h2 := M.vok.small ch
                  have : (10 : Int) ^ 60 < 2 ^ 220 := by decide
                  exact pow_up (m := 220) (by omega) (by omega)
                refine ⟨_, rfl, u, pt, (v.S ch, 1), stepP cl W p, rfl, ⟨SqT.of upd_same, e6.t (e5.t hpt), hs1, (by show (1 : Nat) < 2 ^ 4000; exact Nat.one_lt_two_pow (by decide)), fb.1, fb.2, (by show (0 : Int) < 1; decide), hbd.b0⟩, fun r hr' => ?_⟩
                have hb1 : 0 < (1 : Int) * (stepP cl W p).2 := by have := hbd.b0; omega
                have hle := red_le_r (t := v.S ch * (stepP cl W p).2 - (stepP cl W p).1 * 1) hb1
                have hps := red_pos (t := v.S ch * (stepP cl W p).2 - (stepP cl W p).1 * 1) hb1
                refine ⟨r, redF (v.S ch * (stepP cl W p).2 - (stepP cl W p).1 * 1) (1 * (stepP cl W p).2), rfl, SqT.of upd_same, hps, ?_, ?_⟩
                · exact Nat.lt_of_le_of_lt (by omega) (pow_up (n := 8500) fb.2 (by omega))
                · have e7 := Ex.new (o := tupF (redF (v.S ch * (stepP cl W p).2 - (stepP cl W p).1 * 1) (1 * (stepP cl W p).2))) hr'
                  have g17 := e7 _ _ (e6 _ _ g15)
                  obtain ⟨fs2, F2, n1, n2, n3, n4⟩ := lkO_set (F := F1) (z := frV (v.S ch) (stepN cl W q)) g2 g3 hcn
                  refine ⟨_, rfl, _, rfl, f, _, rfl, DPut.k (k := Sum.inr ch) g17 (by rw [fm_len, sizeLine_eq]; omega), ?_⟩
                  rw [show (redF (v.S ch * (stepP cl W p).2 - (stepP cl W p).1 * 1) (1 * (stepP cl W p).2)).1 / (redF (v.S ch * (stepP cl W p).2 - (stepP cl W p).1 * 1) (1 * (stepP cl W p).2)).2 = frV (v.S ch) (stepN cl W q) from frV_same hrel.1, n1]
                  refine ⟨⟨_, _, rfl⟩, ((k5.exL e6).exL e7).trans (Keep.upd _), fs2, F2, upd_same, n2, n3, val_step hw hc g4 fun y => ?_⟩
                  rw [n4]
                  by_cases ey : y = ch
                  · subst ey
                    rw [if_pos rfl, if_pos ⟨hcl2, path_self (RR_names.mpr hcn)⟩, val_kid hw hcm (path_self (RR_names.mpr hcn)), val_self, hcl, hWg]
                  · rw [if_neg ey, if_neg]
                    rintro ⟨h1, h2⟩
                    have : y ∈ belowR ch (RR c.rs) := (below_mem hw.wf ch y).mpr (.inr ⟨RR_names.mpr (path_in h2), .inr h2⟩)
                    exact ey ((below_leaf hw hcl2).mp this)
              · refine ifF (decide_eq_false cc) ?_
                have hpc := kid_path hw hcm
                refine ⟨_, rfl, a.me, _, _, rfl, M5.me, rfl, _, rfl, _, rfl, _, rfl, S0, a, c, v, ch, .ref pt, f, some (stepP cl W p), some (stepN cl W q), fs1, F1, rfl, M5, .inr hcn, by omega, ⟨pt, rfl, e5.t hpt⟩, by rw [hpc]; exact hrel, g15, hf0, hfn, g2, g3, fun H6 fs2 F2 k6 n1 n2 n3 n4 => ?_⟩
                refine ⟨⟨_, _, rfl⟩, k5.trans k6, fs2, F2, n1, n2, n3, val_step hw hc g4 fun y => ?_⟩
                rw [n4]
                have hne := hw.name_ne hcn
                by_cases c2 : y ∈ lvs c.rs ∧ ch ∈ pathR (RR c.rs) y
                · rw [if_pos c2, if_pos ⟨c2.1, fun e => cc (mem_lvs.mp (e ▸ c2.1)).2, .inr c2.2⟩, val_kid hw hcm c2.2, hcl, hWg]
                · rw [if_neg c2, if_neg]
                  rintro ⟨h1, h2, h3⟩
                  exact c2 ⟨h1, h3.resolve_left hne⟩
          · obtain ⟨⟨z7, z8, rfl⟩, kp, fs1, F1, g1, g2, g3, g4⟩ := pv
            rw [List.length_map] at g4
            have key : ∀ y, undB c x (kids (prs c.rs) x).length y = true ↔ ∃ d, d ∈ kids (prs c.rs) x ∧ d ∈ pathR (RR c.rs) y := fun y => by rw [undB_iff, take_len]
            refine k H' fs1 F1 (Keep.exR e12 kp) g1 g2 g3 fun y => ?_
            rw [g4]
            by_cases c1 : y ∈ lvs c.rs ∧ y ≠ x ∧ InB ("" : Str) (RR c.rs) x y
            · obtain ⟨d, hd, hp⟩ := below_kid hw.wf (RR_names.mpr (lvs_nms c1.1)) c1.2.2 c1.2.1
              rw [if_pos c1, if_pos ⟨c1.1, (key y).mpr ⟨d, mem_kidsR.mpr hd, hp⟩⟩]
            · rw [if_neg c1, if_neg]
              rintro ⟨hy1, hy2⟩
              obtain ⟨d, hd, hp⟩ := (key y).mp hy2
              refine c1 ⟨hy1, fun e => ?_, ?_⟩
              · rw [e] at hy1
                rw [(mem_lvs.mp hy1).2] at hd
                cases hd
              · rcases hx with e | e
                · exact .inl e
                · obtain ⟨l, e2⟩ := path_cut hw.wf _ _ hp
                  rw [path_step hw.wf (mem_kidsR.mp hd)] at e2
                  right
                  rw [e2]
                  exact List.mem_append_left _ (List.mem_append_left _ (path_self (RR_names.mpr e)))
end
end K74
set_option Elab.async false
set_option linter.all false
set_option maxRecDepth 100000
set_option maxHeartbeats 4000000
/-! Lists of pairs (name, size). -/
namespace K74
open PySem PySem.Spec PyProof.Rows L2
def PairR (K : PySem.W.Frag) (H : Hp) (v : V) (p : Str × Int) : Prop := ∃ t, v = .ref t ∧ SqT K H t [.str p.1, .int p.2]
theorem PairR.keep {K : PySem.W.Frag} {H H' : Hp} (e : KeepT H H') {v : V} {p : Str × Int} (h : PairR K H v p) : PairR K H' v p := by
  obtain ⟨t, h1, h2⟩ := h
  exact ⟨t, h1, e.t h2⟩
def PairsAt (K : PySem.W.Frag) (H : Hp) (a : Addr) (pp : List (Str × Int)) : Prop := ∃ xs, SqL K H a xs ∧ Reps (PairR K) H xs pp
theorem PairsAt.ex {K : PySem.W.Frag} {H H' : Hp} {a : Addr} {pp : List (Str × Int)} (e : Ex H H') (h : PairsAt K H a pp) : PairsAt K H' a pp := by
  obtain ⟨xs, h1, h2⟩ := h
  exact ⟨xs, e.l h1, h2.keep (fun _ _ _ _ e h => h.keep e) e.keepT⟩
theorem PairsAt.sq {K : PySem.W.Frag} {H : Hp} {a : Addr} {pp : List (Str × Int)} (h : PairsAt K H a pp) : ∃ xs, SqL K H a xs := h.imp fun _ h => h.1
section
variable {K : PySem.W.Frag} {σ : L2.St} {H1 : Hp} {D a : Addr} {g : TG} {tb : TS} {tt : TT} {te tk tv : TE} {vs : List Nat} {Qd : Hp → Prop} {pp : List (Str × Int)}
theorem lc_pairs (h : PairsAt K H1 a pp) (hz : pp.length ≤ 8) (f : Str × Int → Option V) (hD : H1 D = none)
    (turn : ∀ (i : Nat) (t : Addr) (p : Str × Int) (H' : Hp), pp[i]? = some p → Ex H1 H' → SqT K H' t [.str p.1, .int p.2] → ∀ Q : Option V → Hp → Prop, (∀ H4, Ex H' H4 → Q (f p) H4) →
      g (.ref t) (wipe σ vs) H' fun σ2 H2 => wipe σ2 vs = wipe σ vs ∧ tt σ2 H2 fun b H3 => if b = true then te σ2 H3 fun y H4 => Q (some y) H4 else Q none H3)
    (done : ∀ H', Ex H1 H' → H' D = some (.lst (pp.filterMap f)) → Qd H') :
    ∃ W : Nat → Nat → Hp → Prop, (∃ m, W 0 m (upd H1 D (.lst []))) ∧ ∀ i m H, W i m H →
      ((Itl K a).stop i H ∧ Qd H) ∨ ((Itl K a).go i H ∧ ∃ Nx : Hp → Prop, (∀ H', Nx H' → ∃ m', m' < m ∧ W (i + 1) m' H') ∧ ∀ x H', (Itl K a).yld i H x H' → g x (wipe σ vs) H' fun σ2 H2 => wipe σ2 vs = wipe σ vs ∧ tt σ2 H2 fun b H3 =>
        if b = true then te σ2 H3 fun y H4 => ∃ acc, H4 D = some (.lst acc) ∧ acc.length < sizeLine ∧ Nx (upd H4 D (.lst (acc ++ [y]))) else Nx H3) := by
  obtain ⟨xs, hs, tr, rfl, rfl, hR⟩ := h
  rw [List.length_map] at hz
  refine lc_b tr (·.1) (fun p => f p.2) hD hs (by omega) (fun i b H' hb e Q q => ?_) (fun H2 e2 h2 => done H2 e2 ?_)
  · obtain ⟨t, h3, hT⟩ := PairR.keep e.keepT (hR b (List.mem_of_getElem? hb))
    rw [h3]
    exact turn i t b.2 H' (by rw [List.getElem?_map, hb]; rfl) e hT Q q
  · rw [h2, List.filterMap_map]
    rfl
theorem dc_pairs (h : PairsAt K H1 a pp) (hz : pp.length ≤ 8) (f : Str × Int → Option (Key × V)) (hD : H1 D = none)
    (turn : ∀ (i : Nat) (t : Addr) (p : Str × Int) (H' : Hp), pp[i]? = some p → Ex H1 H' → SqT K H' t [.str p.1, .int p.2] → ∀ Q : Option (V × V) → Hp → Prop, (∀ H4, Ex H' H4 → Q ((f p).map fun p => (kV p.1, p.2)) H4) →
      g (.ref t) (wipe σ vs) H' fun σ2 H2 => wipe σ2 vs = wipe σ vs ∧ tt σ2 H2 fun b H3 => if b = true then tk σ2 H3 fun y H4 => tv σ2 H4 fun z H5 => Q (some (y, z)) H5 else Q none H3)
    (done : ∀ H', Ex H1 H' → H' D = some (.dK (mergeK [] (pp.filterMap f))) → Qd H') :
    ∃ W : Nat → Nat → Hp → Prop, (∃ m, W 0 m (upd H1 D (.dK []))) ∧ ∀ i m H, W i m H →
      ((Itl K a).stop i H ∧ Qd H) ∨ ((Itl K a).go i H ∧ ∃ Nx : Hp → Prop, (∀ H', Nx H' → ∃ m', m' < m ∧ W (i + 1) m' H') ∧ ∀ x H', (Itl K a).yld i H x H' → g x (wipe σ vs) H' fun σ2 H2 => wipe σ2 vs = wipe σ vs ∧ tt σ2 H2 fun b H3 =>
        if b = true then tk σ2 H3 fun y H4 => tv σ2 H4 fun z H5 => ∃ kvs k, y = kV k ∧ H5 D = some (.dK kvs) ∧ kvs.length < sizeLine ∧ Nx (upd H5 D (.dK (putK kvs k z))) else Nx H3) := by
  obtain ⟨xs, hs, tr, rfl, rfl, hR⟩ := h
  rw [List.length_map] at hz
  refine dc_b tr (·.1) (fun p => f p.2) hD hs (by omega) (fun i b H' hb e Q q => ?_) (fun H2 e2 h2 => done H2 e2 ?_)
  · obtain ⟨t, h3, hT⟩ := PairR.keep e.keepT (hR b (List.mem_of_getElem? hb))
    rw [h3]
    exact turn i t b.2 H' (by rw [List.getElem?_map, hb]; rfl) e hT Q q
  · rw [h2, List.filterMap_map]
    rfl
end
/-! ### functions by lists -/
def ofL : List Str → List Int → Str → Int
  | m :: ls, v :: vs, n => if m = n then v else ofL ls vs n
  | _, _, _ => 0
theorem ofL_at {ls : List Str} {vs : List Int} (nd : ls.Nodup) {i : Nat} {n : Str} {v : Int} (h : ls[i]? = some n) (hv : vs[i]? = some v) : ofL ls vs n = v := by
  induction ls generalizing i vs with
  | nil => simp at h
  | cons m ls ih =>
    have nd2 := List.nodup_cons.mp nd
    cases vs with
    | nil => simp at hv
    | cons w vs =>
      cases i with
      | zero =>
        simp at h hv
        subst h hv
        simp [ofL]
      | succ i =>
        simp at h hv
        have : m ≠ n := fun e => nd2.1 (e ▸ List.mem_of_getElem? h)
        show (if m = n then w else ofL ls vs n) = v
        rw [if_neg this]
        exact ih nd2.2 h hv
theorem ofL_map {ls : List Str} {vs : List Int} (nd : ls.Nodup) (hl : vs.length = ls.length) : ls.map (ofL ls vs) = vs := by
  apply List.ext_getElem?
  intro i
  rw [List.getElem?_map]
  cases h : ls[i]? with
  | none =>
    have : vs[i]? = none := by
      rw [List.getElem?_eq_none_iff] at h ⊢
      omega
    rw [this]
    rfl
  | some n =>
    have hi := (List.getElem?_eq_some_iff.mp h).1
    have hv : vs[i]? = some (vs[i]'(by omega)) := List.getElem?_eq_getElem _
    rw [hv]
    show some (ofL ls vs n) = _
    rw [ofL_at nd h hv]
theorem pairs_fm {pp : List (Str × Int)} (nd : (pp.map (·.1)).Nodup) (g : Str × Int → Int) : pp.map (fun p => ((Sum.inr p.1 : Key), V.int (g p))) = fm (pp.map (·.1)) (ofL (pp.map (·.1)) (pp.map g)) := by
  unfold fm
  rw [List.map_map]
  apply List.ext_getElem?
  intro i
  rw [List.getElem?_map, List.getElem?_map]
  cases h : pp[i]? with
  | none => rfl
  | some p =>
    have := ofL_at (vs := pp.map g) nd (i := i) (n := p.1) (v := g p) (by rw [List.getElem?_map, h]; rfl) (by rw [List.getElem?_map, h]; rfl)
    show some _ = some (Sum.inr p.1, V.int (ofL _ _ p.1))
    rw [this]
theorem find_take' {α : Type} {q : α → Bool} {xs : List α} {i : Nat} {x : α} (h : xs[i]? = some x) (h0 : ∀ y, y ∈ xs.take i → q y = false) (hq : q x = true) : xs.find? q = some x := by
  rw [← List.take_append_drop i xs, List.find?_append]
  have : (xs.take i).find? q = none := by
    rw [List.find?_eq_none]
    intro y hy
    rw [h0 y hy]
    decide
  rw [this]
  obtain ⟨hi, e⟩ := List.getElem?_eq_some_iff.mp h
  rw [List.drop_eq_getElem_cons hi, e]
  simp [hq]
/-- the first that fits -/
theorem filter_head {α : Type} {q : α → Bool} {xs : List α} {i : Nat} {x : α} (h : xs[i]? = some x) (hq : q x = true) (h0 : ∀ j y, j < i → xs[j]? = some y → q y = false) : (xs.filter q)[0]? = some x := by
  have := (find_take' h (fun y hy => by
    obtain ⟨j, hj, e⟩ := List.mem_iff_getElem.mp hy
    rw [List.length_take] at hj
    rw [List.getElem_take] at e
    exact h0 j y (by omega) (by rw [List.getElem?_eq_getElem (by omega), e])) hq)
  rw [← List.head?_eq_getElem?, List.head?_filter]
  exact this
theorem fm_drop (ks : List Str) (S : Str → Int) (n : Str) : dropK (fm ks S) (Sum.inr n) = fm (ks.filter fun x => decide (x ≠ n)) S := by
  unfold dropK fm
  rw [List.filter_map]
  congr 1
  apply List.filter_congr
  intro x _
  show decide ((Sum.inr x : Key) ≠ Sum.inr n) = decide (x ≠ n)
  by_cases e : x = n
  · simp [e]
  · have : ¬ (Sum.inr x : Key) = Sum.inr n := fun z => e (Sum.inr.inj z)
    simp [e]
/-! ### one turn of the remainders -/
structure RSt (ls : List Str) (L : List Int) (N : Int) (t : Nat) (F : Str → Int) (ks : List Str) (rm : Str → Int) : Prop where
  F : ∀ i n, ls[i]? = some n → F n = floorOf L N i + if i ∈ (ordOf L N).take t then 1 else 0
  mem : ∀ i n, ls[i]? = some n → (n ∈ ks ↔ i ∉ (ordOf L N).take t)
  sub : ∀ n, n ∈ ks → n ∈ ls
  nd : ks.Nodup
  rm : ∀ i n, ls[i]? = some n → rm n = remOf L N i
theorem ord_nodup (L : List Int) (N : Int) : (ordOf L N).Nodup := (ordOf_ok L N).1.nodup_iff.mpr List.nodup_range
theorem ord_len (L : List Int) (N : Int) : (ordOf L N).length = L.length := by rw [(ordOf_ok L N).1.length_eq, List.length_range]
theorem ord_split {L : List Int} {N : Int} {t j : Nat} (hj : j < L.length) (h : j ∉ (ordOf L N).take t) : j ∈ (ordOf L N).drop t := by
  have : j ∈ ordOf L N := (ordOf_ok L N).1.symm.subset (List.mem_range.mpr hj)
  rw [← List.take_append_drop t (ordOf L N)] at this
  exact (List.mem_append.mp this).resolve_left h
theorem not_take {L : List Int} {N : Int} {t i : Nat} (h : (ordOf L N)[t]? = some i) : i ∉ (ordOf L N).take t := fun hm => by
  have nd := ord_nodup L N
  have ht := (List.getElem?_eq_some_iff.mp h).1
  have e : (ordOf L N).take (t + 1) = (ordOf L N).take t ++ [i] := by rw [List.take_succ, h]; rfl
  have nd2 := (List.take_sublist (t + 1) (ordOf L N)).nodup nd
  rw [e, List.nodup_append] at nd2
  exact nd2.2.2 i hm i (List.mem_singleton.mpr rfl) rfl
section
variable {ls ks : List Str} {L : List Int} {N : Int} {t i : Nat} {F rm : Str → Int} {n : Str}
theorem RSt.top (s : RSt ls L N t F ks rm) (hl : ls.length = L.length) (ht : (ordOf L N)[t]? = some i) (hn : ls[i]? = some n) {m : Int} (h1 : m ∈ ks.map rm) (h2 : ∀ y, y ∈ ks.map rm → y ≤ m) : n ∈ ks ∧ m = remOf L N i := by
  have hk : n ∈ ks := (s.mem i n hn).mpr (not_take ht)
  refine ⟨hk, ?_⟩
  have a1 := h2 _ (List.mem_map.mpr ⟨n, hk, rfl⟩)
  rw [s.rm i n hn] at a1
  obtain ⟨x, hx, rfl⟩ := List.mem_map.mp h1
  obtain ⟨j, hj, e⟩ := List.mem_iff_getElem.mp (s.sub x hx)
  have hjx : ls[j]? = some x := by rw [List.getElem?_eq_getElem hj, e]
  have hd := ord_split (by omega) ((s.mem j x hjx).mp hx)
  rw [s.rm j x hjx] at a1 ⊢
  rcases ahead_take (ordOf_ok L N).2 ht j hd with z | z
  · rw [z]
  · unfold Ahead at z
    omega
theorem RSt.first (s : RSt ls L N t F ks rm) (hl : ls.length = L.length) (ht : (ordOf L N)[t]? = some i) {j : Nat} {x : Str} (hj : j < i) (hx : ls[j]? = some x) (hk : x ∈ ks) : rm x ≠ remOf L N i := by
  have hjl := (List.getElem?_eq_some_iff.mp hx).1
  have hd := ord_split (by omega) ((s.mem j x hx).mp hk)
  rw [s.rm j x hx]
  rcases ahead_take (ordOf_ok L N).2 ht j hd with z | z
  · omega
  · unfold Ahead at z
    omega
theorem RSt.next (s : RSt ls L N t F ks rm) (nd : ls.Nodup) (ht : (ordOf L N)[t]? = some i) (hn : ls[i]? = some n) : RSt ls L N (t + 1) (setS F n (F n + 1)) (ks.filter fun x => decide (x ≠ n)) rm := by
  have e : (ordOf L N).take (t + 1) = (ordOf L N).take t ++ [i] := by rw [List.take_succ, ht]; rfl
  have inj : ∀ j x, ls[j]? = some x → (x = n ↔ j = i) := fun j x hx => by
    constructor
    · intro ex
      subst ex
      obtain ⟨h1, e1⟩ := List.getElem?_eq_some_iff.mp hx
      obtain ⟨h2, e2⟩ := List.getElem?_eq_some_iff.mp hn
      exact (List.getElem_inj nd).mp (e1.trans e2.symm)
    · intro ej
      subst ej
      rw [hn] at hx
      exact (Option.some.inj hx).symm
  refine ⟨fun j x hx => ?_, fun j x hx => ?_, fun x hx => s.sub x (List.mem_filter.mp hx).1, s.nd.filter _, s.rm⟩
  · unfold setS
    by_cases ex : x = n
    · have ej := (inj j x hx).mp ex
      subst ex
      subst ej
      rw [if_pos rfl, s.F j x hx, if_neg (not_take ht), if_pos (by rw [e]; simp)]
      omega
    · have ej : j ≠ i := fun z => ex ((inj j x hx).mpr z)
      rw [if_neg ex, s.F j x hx, e]
      by_cases hm : j ∈ (ordOf L N).take t
      · rw [if_pos hm, if_pos (List.mem_append_left _ hm)]
      · rw [if_neg hm, if_neg]
        intro z
        rcases List.mem_append.mp z with z | z
        · exact hm z
        · exact ej (List.mem_singleton.mp z)
  · rw [List.mem_filter, s.mem j x hx, e, List.mem_append, List.mem_singleton]
    simp only [decide_eq_true_eq, not_or]
    rw [show (x ≠ n) = ¬ (x = n) from rfl, inj j x hx]
theorem RSt.fin (s : RSt ls L N (leftOf L N).toNat F ks rm) (hl : ls.length = L.length) (hN : N ≠ 0) : ls.map F = rnd L N := by
  unfold rnd
  rw [if_neg hN]
  apply List.ext_getElem?
  intro j
  rw [List.getElem?_map, List.getElem?_map]
  cases h : ls[j]? with
  | none =>
    have : (List.range L.length)[j]? = none := by
      rw [List.getElem?_eq_none_iff] at h ⊢
      rw [List.length_range]
      omega
    rw [this]
    rfl
  | some x =>
    have hj := (List.getElem?_eq_some_iff.mp h).1
    rw [List.getElem?_range (by omega)]
    show some (F x) = some _
    rw [s.F j x h]
    rfl
end
end K74
set_option Elab.async false
set_option linter.all false
set_option maxRecDepth 100000
set_option maxHeartbeats 4000000
/-! name = {.. : .. for ..}, the name a plain local. -/
namespace K74
open PySem PySem.Spec PyProof.Rows L2
variable {X : Cx}
abbrev InB5 (X : Cx) (scope : Scope) (q : Cx → Prop) : Prop := ∀ (s : Shared) (H : Hp) (C : Addr) (cl : List (Str × Addr)) (fp : List Addr), q (X.blk s H scope (compEnvC scope cl C X.env) fp)
theorem ps_setDc {j : Nat} {nm : Str} {p1 p2 p3 : Pos} {ek ev tgt src : Expr} {tests : List Expr} {sc : Scope} {own : List (Str × Nat)} {wi : TI} {g : TG} {tt : TT} {tk tv : TE}
    (calm : X.calm = true) (nodup : X.N.Nodup) (at_ : X.N[j]? = some nm) (loc : X.env.scope.names.lookup nm = some .local)
    (sw : swapsWith (.DictComp ek ev [⟨tgt, src, tests, 0⟩] sc p2) (some (.Name nm p1)) p3.line X.env = pure true)
    (over : PI X tgt src wi) (bk : BlkOk X.N X.env.scope sc own)
    (r1 : InB5 X sc fun Y => PG Y tgt g) (r2 : InB5 X sc fun Y => PTs Y tests tt) (r3 : InB5 X sc fun Y => PE Y ek tk) (r4 : InB5 X sc fun Y => PE Y ev tv)
    (fold : ∀ x, foldedSetIterable src X.env x = pure x := by intro _; rfl) :
    PS X (.Assign [.Name nm p1] (.DictComp ek ev [⟨tgt, src, tests, 0⟩] sc p2) p3) (tAsg (tDc wi g tt tk tv (own.map (·.2))) (gName j)) := by
  constructor
  intro pins s σ H D inv want
  rw [exec_Assign_Name_used _ _ _ _ sw]
  apply wpAny_bind
  apply wpAny_standAt
  apply wpAny_bind
  show wpAny _ X.A (do
    let _ ← comprehension (.DictComp ek ev [⟨tgt, src, tests, 0⟩] sc p2) sc X.env (firstIterPos [⟨tgt, src, tests, 0⟩] p2) newDict false (eval src X.env) (some (assign (.Name nm p1) X.env))) _ _ s
  apply wpAny_bind
  refine thn (dc_core (Qf := fun _ t => SP X pins D .next t) calm nodup inv over bk r1 r2 r3 r4 fold (Q := fun x H1 => gName j x σ H1 D.nx) want ?_) fun _ _ hq => wpAny_pure (wpAny_pure hq)
  intro L C s2 m H2 inv2 q nsC fpC
  show wpAny _ _ (assign (.Name nm p1) X.env (.ref L)) _ _ _
  apply wpAny_assign_Name
  refine store_ok2 (v := V.ref L) inv2 nodup at_ (.inl loc) rfl ?_ (.inr loc)
  intro s3 inv3 hx
  obtain ⟨a, same, wh⟩ := hx
  obtain ⟨z0, z1, z2, z3, z4, z5⟩ := fpC
  have apart : C ≠ a := by
    rcases wh with e | e
    · exact e ▸ z1
    · exact Ne.symm (z4 nm a e)
  refine ⟨m, nsC.sameBut same apart, fun h4 same4 => ⟨_, H2, ?_, q⟩⟩
  exact inv3.turned (t' := s3.toks) (fun b o hb e => (same4.2 b hb).trans e) z0 z1 z3 z4 z5
theorem sw_trueD {ek ev : Expr} {gs : List Comprehension} {sc : Scope} {p1 p2 : Pos} {nm : Str} {l : Nat} {env : Env} (kind : env.scope.kind = .function) (loc : env.scope.names.lookup nm = some .local) (line : (p2.line == p1.line) = true)
    (none : (sc.names.any fun (n, k) => n == nm && (k == .local || k == .cell)) = false) : swapsWith (.DictComp ek ev gs sc p1) (some (.Name nm p2)) l env = pure true := by
  have e1 : env.kindOf nm = some .local := loc
  have e2 : env.blockKind = .function := by
    unfold Env.blockKind
    rw [kind]
    rfl
  unfold swapsWith
  simp only [e2, e1, none, Expr.pos, line]
  rfl
end K74
set_option Elab.async false
set_option linter.all false
set_option maxRecDepth 100000
set_option maxHeartbeats 4000000
/-! What is taken back at a name. -/
namespace K74
open PySem PySem.Spec PyProof.Rows L2
section
variable (rs : List RowD) (kp S : Str → Int) (name : Str) (N : Int)
def LB : List Str := (lvs rs).filter fun l => decide (l ∈ belowR name (RR rs))
def frL : List Int := (LB rs name).map (freeF rs kp S name)
def fstN : Int := if (frL rs kp S name).sum < N then (frL rs kp S name).sum else N
def lostA : List Int := rnd (frL rs kp S name) (fstN rs kp S name N)
def restL : List Int := List.zipWith (fun s x => s - x) ((LB rs name).map S) (lostA rs kp S name N)
def lostB : List Int := rnd (restL rs kp S name N) (N - fstN rs kp S name N)
def lostL : List Int := List.zipWith (fun x y => x + y) (lostA rs kp S name N) (lostB rs kp S name N)
def lostT : Str → Int := ofL (LB rs name) (lostL rs kp S name N)
def lostK : List Str := (LB rs name).filter fun l => decide (0 < lostT rs kp S name N l)
end
def subS (S : Str → Int) (ks : List Str) (T : Str → Int) (n : Str) : Int := if n ∈ ks then S n - T n else S n
section
variable {rs : List RowD} {kp S : Str → Int} {name : Str} {N : Int}
theorem LB_nodup (w : WfD rs) : (LB rs name).Nodup := (lvs_nodup w).filter _
theorem LB_lvs {x : Str} (h : x ∈ LB rs name) : x ∈ lvs rs := (List.mem_filter.mp h).1
theorem LB_len (w : WfD rs) : (LB rs name).length ≤ 8 := Nat.le_trans (List.length_filter_le _ _) (Nat.le_trans (lvs_len rs) w.few)
theorem chg_LB : chg rs (lvs rs) S name = ((LB rs name).map S).sum := rfl
theorem lostA_len : (lostA rs kp S name N).length = (LB rs name).length := by
  unfold lostA frL
  rw [rnd_len, List.length_map]
theorem restL_len : (restL rs kp S name N).length = (LB rs name).length := by
  unfold restL
  rw [List.length_zipWith, List.length_map, lostA_len]
  omega
theorem lostB_len : (lostB rs kp S name N).length = (LB rs name).length := by
  unfold lostB
  rw [rnd_len, restL_len]
theorem lostL_len : (lostL rs kp S name N).length = (LB rs name).length := by
  unfold lostL
  rw [List.length_zipWith, lostA_len, lostB_len]
  omega
theorem lostK_sub {x : Str} (h : x ∈ lostK rs kp S name N) : x ∈ LB rs name := (List.mem_filter.mp h).1
theorem frL_nonneg (w : WfD rs) (h : KSOk rs kp S) : ∀ x, x ∈ frL rs kp S name → 0 ≤ x := by
  intro x hx
  obtain ⟨l, hl, rfl⟩ := List.mem_map.mp hx
  exact (freeF_range w h (LB_lvs hl)).1
theorem sum_nonneg {xs : List Int} (h : ∀ x, x ∈ xs → 0 ≤ x) : 0 ≤ xs.sum := by
  have := sum_map_le (fun _ => (0 : Int)) (fun x => x) xs h
  rw [sum_map_const, List.map_id'] at this
  omega
theorem fst_range (w : WfD rs) (h : KSOk rs kp S) (h0 : 0 ≤ N) : 0 ≤ fstN rs kp S name N ∧ fstN rs kp S name N ≤ (frL rs kp S name).sum ∧ fstN rs kp S name N ≤ N := by
  have := sum_nonneg (frL_nonneg (name := name) w h)
  unfold fstN
  split <;> omega
theorem A_at (w : WfD rs) (h : KSOk rs kp S) (h0 : 0 ≤ N) {i : Nat} {l : Str} (hl : (LB rs name)[i]? = some l) : ∃ r, (lostA rs kp S name N)[i]? = some r ∧ 0 ≤ r ∧ r ≤ S l := by
  have hi := (List.getElem?_eq_some_iff.mp hl).1
  have hs : (frL rs kp S name)[i]? = some (freeF rs kp S name l) := by
    unfold frL
    rw [List.getElem?_map, hl]
    rfl
  have hr : (lostA rs kp S name N)[i]? = some ((lostA rs kp S name N)[i]'(by rw [lostA_len]; exact hi)) := List.getElem?_eq_getElem _
  have f := fst_range (name := name) w h h0
  have := rnd_range (frL_nonneg (name := name) w h) f.1 f.2.1 hs hr
  have f2 := freeF_range (name := name) w h (LB_lvs (List.mem_of_getElem? hl))
  exact ⟨_, hr, this.1, by omega⟩
theorem rest_at (w : WfD rs) (h : KSOk rs kp S) (h0 : 0 ≤ N) {i : Nat} {l : Str} (hl : (LB rs name)[i]? = some l) {r : Int} (hr : (lostA rs kp S name N)[i]? = some r) : (restL rs kp S name N)[i]? = some (S l - r) := by
  unfold restL
  rw [List.getElem?_zipWith, List.getElem?_map, hl, hr]
  rfl
theorem rest_nonneg (w : WfD rs) (h : KSOk rs kp S) (h0 : 0 ≤ N) : ∀ x, x ∈ restL rs kp S name N → 0 ≤ x := by
  intro x hx
  obtain ⟨i, hi, e⟩ := List.mem_iff_getElem.mp hx
  rw [restL_len] at hi
  have hl : (LB rs name)[i]? = some (LB rs name)[i] := List.getElem?_eq_getElem hi
  obtain ⟨r, hr, r0, r1⟩ := A_at w h h0 hl
  have := rest_at w h h0 hl hr
  rw [List.getElem?_eq_getElem (by rw [restL_len]; exact hi), e] at this
  have := Option.some.inj this
  omega
theorem zip_sub_sum : ∀ (xs ys : List Int), xs.length = ys.length → (List.zipWith (fun s x => s - x) xs ys).sum = xs.sum - ys.sum
  | [], [], _ => rfl
  | x :: xs, y :: ys, h => by
    have := zip_sub_sum xs ys (by simpa using h)
    simp only [List.zipWith_cons_cons, List.sum_cons, this]
    omega
  | [], _ :: _, h => by simp at h
  | _ :: _, [], h => by simp at h
/-- the second share is due from what is left -/
theorem more_range (w : WfD rs) (h : KSOk rs kp S) (h0 : 0 ≤ N) (h1 : N ≤ chg rs (lvs rs) S name) : 0 ≤ N - fstN rs kp S name N ∧ N - fstN rs kp S name N ≤ (restL rs kp S name N).sum := by
  have f := fst_range (name := name) w h h0
  refine ⟨by omega, ?_⟩
  by_cases c : (frL rs kp S name).sum < N
  · have ef : fstN rs kp S name N = (frL rs kp S name).sum := if_pos c
    have ea : lostA rs kp S name N = frL rs kp S name := by
      unfold lostA
      rw [ef, rnd_whole (frL_nonneg (name := name) w h)]
    unfold restL
    rw [zip_sub_sum _ _ (by rw [lostA_len, List.length_map]), ea, ef, ← chg_LB]
    omega
  · have ef : fstN rs kp S name N = N := if_neg c
    rw [ef]
    have := sum_nonneg (rest_nonneg (name := name) w h h0)
    omega
theorem lostT_at (w : WfD rs) {i : Nat} {l : Str} {r s : Int} (hl : (LB rs name)[i]? = some l) (ha : (lostA rs kp S name N)[i]? = some r) (hb : (lostB rs kp S name N)[i]? = some s) : lostT rs kp S name N l = r + s := by
  unfold lostT
  refine ofL_at (LB_nodup w) hl ?_
  unfold lostL
  rw [List.getElem?_zipWith, ha, hb]
theorem lostT_range (w : WfD rs) (h : KSOk rs kp S) (h0 : 0 ≤ N) (h1 : N ≤ chg rs (lvs rs) S name) {l : Str} (hl : l ∈ LB rs name) : 0 ≤ lostT rs kp S name N l ∧ lostT rs kp S name N l ≤ S l := by
  obtain ⟨i, hi, e⟩ := List.mem_iff_getElem.mp hl
  have hl2 : (LB rs name)[i]? = some l := by rw [List.getElem?_eq_getElem hi, e]
  obtain ⟨r, hr, r0, r1⟩ := A_at w h h0 hl2
  have hrest := rest_at w h h0 hl2 hr
  have hs : (lostB rs kp S name N)[i]? = some ((lostB rs kp S name N)[i]'(by rw [lostB_len]; exact hi)) := List.getElem?_eq_getElem _
  have m := more_range w h h0 h1
  have := rnd_range (rest_nonneg w h h0) m.1 m.2 hrest hs
  rw [lostT_at w hl2 hr hs]
  omega
theorem subS_ok (w : WfD rs) (h : KSOk rs kp S) (h0 : 0 ≤ N) (h1 : N ≤ chg rs (lvs rs) S name) (n : Str) : 0 ≤ subS S (lostK rs kp S name N) (lostT rs kp S name N) n ∧ subS S (lostK rs kp S name N) (lostT rs kp S name N) n ≤ S n := by
  unfold subS
  have hn := h.s0 n
  split
  · rename_i hm
    have := lostT_range w h h0 h1 (lostK_sub hm)
    omega
  · exact ⟨hn, Int.le_refl _⟩
end
theorem MvOk.sub {c : MC} {v : MV} (k : MvOk c v) (m : McOk c) {kp : Str → Int} (h : KSOk c.rs kp v.S) {name : Str} {N : Int} (h0 : 0 ≤ N) (h1 : N ≤ chg c.rs (lvs c.rs) v.S name) : MvOk c { v with S := subS v.S (lostK c.rs kp v.S name N) (lostT c.rs kp v.S name N) } := by
  refine ⟨k.nd, k.ls, k.lt, k.ge, k.few, fun n => (subS_ok m.wf h h0 h1 n).1, fun n hn => ?_, fun n => ?_⟩
  · show subS v.S _ _ n = 0
    unfold subS
    rw [if_neg (fun hm => hn (LB_lvs (lostK_sub hm)))]
    exact k.zero n hn
  · have := (subS_ok m.wf h h0 h1 n).2
    have := k.small n
    show subS v.S _ _ n < _
    omega
end K74
set_option Elab.async false
set_option linter.all false
set_option maxRecDepth 100000
set_option maxHeartbeats 4000000
namespace K74
open PySem PySem.Spec PyProof.Rows L2
section
variable {P : Program} {w : World} {K : PySem.W.Frag} {mg : Str → Option Value} {base : Heap}
abbrev N_l_safe_part : List Str := ["_law_rows_here", "_law_sizes", "_law_kept", "_law_name", "_law_leaf", "_law_part_here", "_law_way_here", "_law_one", "_law_mates", "_law_claims", "_law_own", "_law_row", "_law_mate"]
abbrev P_l_safe_part : List Str := ["_law_rows_here", "_law_sizes", "_law_kept", "_law_name", "_law_leaf"]
theorem sc_l_safe_part : FnScope N_l_safe_part P_l_safe_part (defScope s_l_safe_part) := C8.fnScope_by (by decide +kernel)
theorem b_l_safe_part {K : PySem.W.Frag} {fd : FuncData} (F : FunD K d_l_safe_part.name d_l_safe_part.qual d_l_safe_part.params d_l_safe_part.body d_l_safe_part.scope (d_l_safe_part.dvs K) (d_l_safe_part.kws K) (He.fAd K d_l_safe_part.at_) fd) : L2.Binds K fd P_l_safe_part [] :=
  FunD.bindsN F fun _ _ _ _ _ _ us hl => match us, hl with | [_, _, _, _, _], _ => rfl
abbrev N_l_free : List Str := ["_law_rows_here", "_law_sizes", "_law_kept", "_law_name", "_law_leaf", "_law_part_here"]
abbrev P_l_free : List Str := ["_law_rows_here", "_law_sizes", "_law_kept", "_law_name", "_law_leaf"]
theorem sc_l_free : FnScope N_l_free P_l_free (defScope s_l_free) := C8.fnScope_by (by decide +kernel)
theorem b_l_free {K : PySem.W.Frag} {fd : FuncData} (F : FunD K d_l_free.name d_l_free.qual d_l_free.params d_l_free.body d_l_free.scope (d_l_free.dvs K) (d_l_free.kws K) (He.fAd K d_l_free.at_) fd) : L2.Binds K fd P_l_free [] :=
  FunD.bindsN F fun _ _ _ _ _ _ us hl => match us, hl with | [_, _, _, _, _], _ => rfl
def kpL (kn : List Str) (kS : Str → Int) (n : Str) : Int := if n ∈ kn then kS n else 0
theorem path_index {rs : List RowD} (w : WfD rs) {name leaf : Str} (hn : name ∈ pathR (RR rs) leaf) : ∃ j, j + 1 = (pathR (RR rs) name).length ∧ (pathR (RR rs) leaf)[j]? = some name ∧ ∀ m z, m < j → (pathR (RR rs) leaf)[m]? = some z → z ≠ name := by
  obtain ⟨l, hl⟩ := path_cut w.wf leaf name hn
  obtain ⟨l2, hl2⟩ := path_last (path_sub leaf name hn)
  refine ⟨l2.length, by rw [hl2]; simp, by rw [hl, hl2]; simp, fun m z hm hz e => ?_⟩
  have nd := path_nodup w.wf name
  rw [hl2] at nd
  have h3 := (List.nodup_append.mp nd).2.2
  rw [hl, hl2, List.append_assoc, List.getElem?_append_left hm] at hz
  exact h3 z (List.mem_of_getElem? hz) name (by simp) e
theorem cut_drop (ys : List V) (j : Nat) : cutV ys (some ((j : Int) + 1)) none = ys.drop (j + 1) := by
  have e1 : (j : Int) + 1 = ((j + 1 : Nat) : Int) := by omega
  rw [e1]
  unfold cutV
  rw [HT.sIx_none, HT.sIx_nat]
  apply List.ext_getElem?
  intro i
  rw [List.getElem?_take, List.getElem?_drop, List.getElem?_drop]
  by_cases c : j + 1 ≤ ys.length
  · rw [Nat.min_eq_left c]
    split
    · rfl
    · symm
      apply List.getElem?_eq_none
      omega
  · rw [Nat.min_eq_right (by omega)]
    split
    · omega
    · symm
      apply List.getElem?_eq_none
      omega
theorem Reps.drop {γ : Type} {Rep : Hp → V → γ → Prop} {H : Hp} {ys : List V} {cs : List γ} (h : Reps Rep H ys cs) (n : Nat) : Reps Rep H (ys.drop n) (cs.drop n) := by
  obtain ⟨tr, h1, h2, h3⟩ := h
  exact ⟨tr.drop n, by rw [h1, List.map_drop], by rw [h2, List.map_drop], fun p hp => h3 p (List.mem_of_mem_drop hp)⟩
theorem Reps.at {γ : Type} {Rep : Hp → V → γ → Prop} {H : Hp} {ys : List V} {cs : List γ} (h : Reps Rep H ys cs) {i : Nat} {z : V} (hz : ys[i]? = some z) : ∃ c, cs[i]? = some c ∧ Rep H z c := by
  have hi : i < cs.length := by
    rw [← h.len]
    exact (List.getElem?_eq_some_iff.mp hz).1
  have hc : cs[i]? = some cs[i] := List.getElem?_eq_getElem hi
  obtain ⟨y, hy, hr⟩ := h.get hc
  rw [hz] at hy
  cases hy
  exact ⟨_, hc, hr⟩
theorem mates_kids (rs : List RowD) (p : Str) : ((rs.filter fun r => decide (r.par = p)).map fun r => V.str r.nm) = (kids (prs rs) p).map V.str := by
  simp [kids, prs, List.filter_map, Function.comp_def]
structure LSt (K : PySem.W.Frag) (H : Hp) (a ds dk : Addr) (rs : List RowD) (S : Str → Int) (kn : List Str) (kS : Str → Int) : Prop where
  rows : RowsAt K H a rs
  wf : WfD rs
  sz : Rd H ds (.dK (fm (lvs rs) S))
  kp : Rd H dk (.dK (fm kn kS))
  ks : KSOk rs (kpL kn kS) S
theorem LSt.ex {H H' : Hp} {a ds dk : Addr} {rs : List RowD} {S : Str → Int} {kn : List Str} {kS : Str → Int} (h : LSt K H a ds dk rs S kn kS) (e : Ex H H') : LSt K H' a ds dk rs S kn kS := ⟨h.rows.ex e, h.wf, e.rd h.sz, e.rd h.kp, h.ks⟩
def spSafePart (K : PySem.W.Frag) : Sp := fun vs H Q _ => ∃ (a ds dk : Addr) (rs : List RowD) (S : Str → Int) (kn : List Str) (kS : Str → Int) (name leaf : Str), vs = [.ref a, .ref ds, .ref dk, .str name, .str leaf] ∧ LSt K H a ds dk rs S kn kS ∧ leaf ∈ lvs rs ∧ leaf ≠ name ∧ InB ("" : Str) (RR rs) name leaf ∧
  ∀ p H' q, Ex H H' → foldN rs (kpL kn kS) S none ((pathR (RR rs) leaf).drop (pathR (RR rs) name).length) = some q → SqT K H' p [.int q.1, .int q.2] → Q (.ref p) H'
theorem ok_l_safe_part (T : Tx K mg) : Has P w K mg base CX0 3 d_l_safe_part P_l_safe_part (spSafePart K) := by
  have H_l_path : Has P w K mg base CX0 1 d_l_path P_l_path (spPath K) := ok_l_path T
  have H_l_charged : Has P w K mg base CX0 2 d_l_charged P_l_charged (spCharged K) := ok_l_charged T
  have H_l_ratio : Has P w K mg base CX0 2 d_l_ratio P_l_ratio spFraction := ok_l_ratio T
  refine has0 T _ at_d_l_safe_part sc_l_safe_part (fun fd F => b_l_safe_part F) (fun vs H Q E h => ?_) (fun cdv A outer s H vs Q E hr h => ?_)
  · obtain ⟨a, ds, dk, rs, S, kn, kS, name, leaf, rfl, _⟩ := h
    rfl
  · obtain ⟨a, ds, dk, rs, S, kn, kS, name, leaf, rfl, L, hlf, hne, hin, k⟩ := h
    have hu := hu_of hr
    have hw := L.wf
    have ks := L.ks
    have nd := sc_l_safe_part.nd
    refine ⟨_, (pss_cons (ps_set (i := 5) nd rfl (Or.inl rfl) pe_non)
        (pss_cons (ps_set (i := 6) nd rfl (Or.inl rfl) (pe_cl H_l_path hr (by first | decide | omega) T.g_l_path pass0 (pa_cons (pv 0) (pa_cons (pv 4) pa_nil))))
        (C8.pss_cut (ps_if (pt_cmpR op_ne (pv 3) pe_str (nomark _)) (pss_one (ps_set (i := 6) nd rfl (Or.inl rfl) (pe_slice (slL K rfl) (pv 6) (po_some (pe_op op_add (pe_bm PySem.F.plainAttrs_list PySem.F.slot_list_index PySem.F.type_list_index mt_index (pe_lc (own := [("_law_row", 11)]) (g := gName 11) (tt := tYes) rfl nd (pi_list (pv 6)) (blkOk_by (N := N_l_safe_part) (sc := defScope s_l_safe_part) (by decide +kernel)) (fun _ _ _ _ _ => pg_name (i := 11) nd rfl (Or.inl rfl)) (fun _ _ _ _ _ => pts_nil) (fun _ _ _ _ _ => (pe_ix (ixT K rfl) (pv 11) pe_int (fun _ _ => rfl)))) (pa_cons (pv 3) pa_nil)) pe_int)) po_none))) pss_nil)
        (pss_cons (ps_for PassesOwn.never rfl (pi_list (pv 6)) (pg_name (i := 7) nd rfl (Or.inr rfl))
          (pss_cons (ps_setLc (i := 8) (own := [("_law_row", 11)]) (g := gName 11) rfl nd rfl rfl (sw_true rfl rfl rfl (by decide +kernel)) (pi_list (pv 0)) (blkOk_by (N := N_l_safe_part) (sc := defScope s_l_safe_part) (by decide +kernel)) (fun _ _ _ _ _ => pg_name (i := 11) nd rfl (Or.inl rfl)) (fun _ _ _ _ _ => (pts_one (pt_cmpR op_eq (pe_ix (ixT K rfl) (pv 11) pe_int (fun _ _ => rfl)) (pe_ix (ixT K rfl) (pv 7) pe_int (fun _ _ => rfl)) (nomark _)))) (fun _ _ _ _ _ => (pe_ix (ixT K rfl) (pv 11) pe_int (fun _ _ => rfl))))
            (pss_cons (ps_set (i := 9) nd rfl (Or.inl rfl) (pe_callB (cr_sum rfl) (by rfl) T.z_sum (by decide +kernel) (pa_cons (pe_lc (own := [("_law_mate", 12)]) (g := gName 12) (tt := tYes) rfl nd (pi_list (pv 8)) (blkOk_by (N := N_l_safe_part) (sc := defScope s_l_safe_part) (by decide +kernel)) (fun _ _ _ _ _ => pg_name (i := 12) nd rfl (Or.inl rfl)) (fun _ _ _ _ _ => pts_nil) (fun _ _ _ _ _ => (pe_callB (call_min2 rfl) (by rfl) T.z_min (by decide +kernel) (pa_cons (pe_dget2 hu (pv 2) (pv 12) pe_int ⟨rfl, rfl, rfl, rfl⟩) (pa_cons (pe_cl H_l_charged hr (by first | decide | omega) T.g_l_charged pass0 (pa_cons (pv 0) (pa_cons (pv 1) (pa_cons (pv 12) pa_nil)))) pa_nil))))) pa_nil)))
            (pss_cons (ps_set (i := 10) nd rfl (Or.inl rfl) (pe_callB (call_min2 rfl) (by rfl) T.z_min (by decide +kernel) (pa_cons (pe_dget2 hu (pv 2) (pe_ix (ixT K rfl) (pv 7) pe_int (fun _ _ => rfl)) pe_int ⟨rfl, rfl, rfl, rfl⟩) (pa_cons (pe_cl H_l_charged hr (by first | decide | omega) T.g_l_charged pass0 (pa_cons (pv 0) (pa_cons (pv 1) (pa_cons (pe_ix (ixT K rfl) (pv 7) pe_int (fun _ _ => rfl)) pa_nil)))) pa_nil))))
            (pss_one (ps_if (PW.pt (pw_or (pt_cmpR op_isN (pv 5) pe_non (nomark _)) (pw_or1 (pt_cmpR op_ge (pe_ix (ixT K rfl) (pv 5) pe_int (fun _ _ => rfl)) (pe_op op_mulW (pv 9) (pe_ix (ixT K rfl) (pv 5) pe_int (fun _ _ => rfl))) (nomark _))))) (pss_one (ps_set (i := 5) nd rfl (Or.inl rfl) (pe_tup (pa_cons (pv 10) (pa_cons pe_int pa_nil))))) (pss_one (ps_set (i := 5) nd rfl (Or.inl rfl) (pe_cl H_l_ratio hr (by first | decide | omega) T.g_l_ratio pass0 (pa_cons (pe_op op_mulW (pe_ix (ixT K rfl) (pv 5) pe_int (fun _ _ => rfl)) (pv 10)) (pa_cons (pe_op op_mulW (pe_ix (ixT K rfl) (pv 5) pe_int (fun _ _ => rfl)) (pv 9)) pa_nil)))))))))))
        (pss_one (ps_ret (pv 5))))))), ?_⟩
    refine ⟨_, rfl, _, rfl, a, leaf, rs, rfl, L.rows, hw, .inr (lvs_nms hlf), fun p H1 ys cs hp e1 h1 r1 c1 m1 => ?_⟩
    have L1 := L.ex e1
    have hcl : cs.length ≤ 8 := by
      rw [← List.length_map (f := (·.nm)), c1]
      exact hw.path_le leaf
    refine ⟨fun σ' H2 => ∃ (p6 : Addr) (ys2 : List V) (cs2 : List RowD) (z11 : Option V), σ' = [some (.ref a), some (.ref ds), some (.ref dk), some (.str name), some (.str leaf), some .non, some (.ref p6), none, none, none, none, z11, none] ∧ Ex H H2 ∧ SqL K H2 p6 ys2 ∧ Reps (RowR K) H2 ys2 cs2 ∧ cs2.map (·.nm) = (pathR (RR rs) leaf).drop (pathR (RR rs) name).length ∧ (∀ c, c ∈ cs2 → c ∈ rs) ∧ cs2.length ≤ 8, ?_, ?_⟩
    · refine ⟨_, rfl, rfl, _, rfl, ?_⟩
      by_cases c : name = ""
      · refine ifF (by simp [c]) ⟨p, ys, cs, _, rfl, e1, K74.SqL.of' h1, r1, ?_, m1, hcl⟩
        rw [c1, c, path_root hw.wf]
        rfl
      · refine ifT (by simp [c]) ?_
        have hnp := hin.resolve_left c
        obtain ⟨j, hj1, hj2, hj3⟩ := path_index hw hnp
        have hR := rowsAt_of_reps h1 r1
        refine ⟨_, rfl, _, rfl, p, rfl, hR.sq, fun D hD => ?_⟩
        refine lc_rows hR hcl (fun r => some (V.str r.nm)) hD (fun i t r cv H' hb e hT hc Q q => ?_) (fun H2 e2 h2 => ?_)
        · exact ⟨rfl, _, rfl, t, _, _, _, rfl, rfl, hT, rfl, q _ (Ex.refl _)⟩
        rw [filterMap_some] at h2
        have e3 : (cs.map fun r => V.str r.nm) = (pathR (RR rs) leaf).map V.str := by
          rw [← c1, List.map_map]
          rfl
        rw [e3] at h2
        refine ⟨.inl ⟨rfl, _, K74.SqL.of' h2⟩, _, rfl, D, _, .str name, j, .str name, rfl, rfl, K74.SqL.of' h2, rfl, flat_strs _, by rw [List.getElem?_map, hj2]; rfl, by simp [eqV], fun m z' hm hz => ?_, ?_⟩
        · rw [List.getElem?_map] at hz
          obtain ⟨z, hz1, rfl⟩ := Option.map_eq_some_iff.mp hz
          have := hj3 m z hm hz1
          simpa [eqV] using this
        refine ⟨_, _, rfl, rfl, _, rfl, p, ys, rfl, K74.SqL.of' (e2 _ _ h1), fun p6 hp6 => ?_⟩
        rw [cut_drop, hj1]
        refine ⟨p6, _, cs.drop (pathR (RR rs) name).length, _, rfl, (e1.trans e2).trans (Ex.new hp6), K74.SqL.of' upd_same, ((r1.drop _).keep (fun _ _ _ _ e h => h.keep e) (e2.trans (Ex.new hp6)).keepT), by rw [List.map_drop, c1], fun c hc => m1 c (List.mem_of_mem_drop hc), ?_⟩
        rw [List.length_drop]
        omega
    · rintro σ' H2 ⟨p6, ys2, cs2, z11, rfl, e2, h6, r6, c6, m6, l6⟩
      refine ⟨_, rfl, p6, rfl, ⟨_, h6⟩, ?_⟩
      refine for_list (K := K) (a := p6) (xs := ys2) (fun i σ H' => (∃ v5 z7 z8 z9 z10 z11 z12, σ = [some (.ref a), some (.ref ds), some (.ref dk), some (.str name), some (.str leaf), some v5, some (.ref p6), z7, z8, z9, z10, z11, z12] ∧ OwnR K H' v5 (foldN rs (kpL kn kS) S none ((cs2.map (·.nm)).take i))) ∧ Ex H2 H')
        ⟨⟨.non, _, _, _, _, _, _, rfl, rfl⟩, Ex.refl _⟩ (fun i σ H' _ pv => pv.2.l h6) (fun i z σ H' hz pv => ?_) (fun σ H' pv => ?_)
      · obtain ⟨⟨v5, z7, z8, z9, z10, z11, z12, rfl, ow⟩, e3⟩ := pv
        obtain ⟨one, ho, hone⟩ := r6.at hz
        have hom := List.mem_of_getElem? ho
        have L' := L.ex (e2.trans e3)
        obtain ⟨t1, cv1, rfl, hT1, _⟩ := hone.keep e3.keepT
        refine ⟨_, rfl, a, rfl, L'.rows.sq, fun D hD => ?_⟩
        refine lc_rows L'.rows hw.few (fun r => if decide (r.par = one.par) = true then some (V.str r.nm) else none) hD (fun i t r cv H3 hb e hT hc Q q => ?_) (fun H3 e4 h4 => ?_)
        · refine ⟨rfl, _, rfl, t, _, _, _, rfl, rfl, hT, rfl, _, rfl, t1, _, _, _, rfl, rfl, e.t hT1, rfl, rfl, _, rfl, ?_⟩
          by_cases c : r.par = one.par
          · rw [if_pos (decide_eq_true c)] at q
            exact ifT (by simp [c]) ⟨_, rfl, t, _, _, _, rfl, rfl, hT, rfl, q _ (Ex.refl _)⟩
          · rw [if_neg (by simp [c])] at q
            exact ifF (by simp [c]) (q _ (Ex.refl _))
        rw [filterMap_if, mates_kids] at h4
        have hk8 : (kids (prs rs) one.par).length ≤ 8 := Nat.le_trans (kids_len rs one.par) hw.few
        refine ⟨_, rfl, D, rfl, ⟨_, K74.SqL.of' h4⟩, fun D2 hD2 => ?_⟩
        refine lc_b (kids (prs rs) one.par) V.str (fun y => some (V.int (clm rs (kpL kn kS) S y))) hD2 (K74.SqL.of' h4) (by omega) (fun i y H4 hy e Q q => ?_) (fun H4 e5 h5 => ?_)
        · have L4 := (L'.ex e4).ex e
          refine ⟨rfl, _, rfl, dk, rfl, .inl ⟨_, L4.kp⟩, _, rfl, _, get_fmO y L4.kp, ?_⟩
          refine ⟨_, rfl, _, rfl, _, rfl, a, ds, y, rs, lvs rs, S, rfl, L4.rows, hw.few, Nat.le_trans (lvs_len rs) hw.few, L4.sz, fun H5 e5 => ⟨kpL kn kS y, _, ?_, q H5 e5⟩⟩
          unfold kpL
          split <;> rfl
        rw [filterMap_some] at h5
        refine ⟨D2, (kids (prs rs) one.par).map (clm rs (kpL kn kS) S), rfl, K74.SqL.of' (by rw [h5, List.map_map]; rfl), ?_⟩
        have e45 := e4.trans e5
        have L5 := L'.ex e45
        have hT5 := e45.t hT1
        refine ⟨_, rfl, dk, rfl, .inl ⟨_, L5.kp⟩, _, rfl, t1, _, _, _, rfl, rfl, hT5, rfl, _, get_fmO one.nm L5.kp, ?_⟩
        refine ⟨_, rfl, _, rfl, _, rfl, t1, _, _, _, rfl, rfl, hT5, rfl, a, ds, one.nm, rs, lvs rs, S, rfl, L5.rows, hw.few, Nat.le_trans (lvs_len rs) hw.few, L5.sz, fun H6 e6 => ⟨kpL kn kS one.nm, chg rs (lvs rs) S one.nm, ?_, ?_⟩⟩
        · unfold kpL
          split <;> rfl
        have hcl0 : V.int (if chg rs (lvs rs) S one.nm < kpL kn kS one.nm then chg rs (lvs rs) S one.nm else kpL kn kS one.nm) = V.int (clm rs (kpL kn kS) S one.nm) := rfl
        rw [hcl0]
        have hW : ((kids (prs rs) one.par).map (clm rs (kpL kn kS) S)).sum = wk rs (kpL kn kS) S (parN rs one.nm) := by
          rw [parN_of hw (mem_kids.mpr (List.mem_map.mpr ⟨one, m6 one hom, rfl⟩))]
          rfl
        rw [hW]
        have c0 := ks.cl0 one.nm
        have c1' := ks.cl1 hw one.nm
        have w0 := ks.w0 (parN rs one.nm)
        have w1 := ks.w1 hw (parN rs one.nm)
        have hstep : foldN rs (kpL kn kS) S none ((cs2.map (·.nm)).take (i + 1)) = some (stepN (clm rs (kpL kn kS) S one.nm) (wk rs (kpL kn kS) S (parN rs one.nm)) (foldN rs (kpL kn kS) S none ((cs2.map (·.nm)).take i))) := by
          rw [List.take_add_one, List.getElem?_map, ho]
          unfold foldN
          rw [List.foldl_append]
          rfl
        have hbd : ∀ q, foldN rs (kpL kn kS) S none ((cs2.map (·.nm)).take i) = some q → Bd 8 q := by
          intro q hq
          have h := fold_bd hw ks ((cs2.map (·.nm)).take i) 0 none trivial
          rw [hq] at h
          have hl : ((cs2.map (·.nm)).take i).length ≤ 8 := by
            rw [List.length_take, List.length_map]
            omega
          have b := h.2.1
          exact ⟨b.t0, pow_up b.t1 (by omega), b.b0, pow_up b.b1 (by omega)⟩
        have e36 := (e3.trans e45).trans e6
        have ow6 : OwnR K H6 v5 (foldN rs (kpL kn kS) S none ((cs2.map (·.nm)).take i)) := ow.keep (e45.trans e6).keepT
        generalize hcl2 : clm rs (kpL kn kS) S one.nm = cl at *
        generalize hW2 : wk rs (kpL kn kS) S (parN rs one.nm) = W at *
        generalize hq2 : foldN rs (kpL kn kS) S none ((cs2.map (·.nm)).take i) = q0 at *
        have fin : ∀ (pt : Addr) (H7 : Hp), Ex H6 H7 → SqT K H7 pt [.int (stepN cl W q0).1, .int (stepN cl W q0).2] → (∃ u5 u7 u8 u9 u10 u11 u12, [some (.ref a), some (.ref ds), some (.ref dk), some (.str name), some (.str leaf), some (.ref pt), some (.ref p6), some (.ref t1), some (.ref D), some (.int W), some (.int cl), z11, z12] = [some (.ref a), some (.ref ds), some (.ref dk), some (.str name), some (.str leaf), some u5, some (.ref p6), u7, u8, u9, u10, u11, u12] ∧ OwnR K H7 u5 (foldN rs (kpL kn kS) S none ((cs2.map (·.nm)).take (i + 1)))) ∧ Ex H2 H7 := by
          intro pt H7 e7 hT7
          refine ⟨⟨.ref pt, _, _, _, _, _, _, rfl, ?_⟩, e36.trans e7⟩
          rw [hstep]
          exact ⟨pt, rfl, hT7⟩
        refine ⟨_, rfl, rfl, _, rfl, ?_⟩
        cases q0 with
        | none =>
          cases (show v5 = .non from ow6)
          refine ifT rfl (ifT rfl ?_)
          exact ⟨_, rfl, (by show 2 ≤ sizeLine; decide), fun pt hpt => fin pt _ (Ex.new hpt) (SqT.of upd_same)⟩
        | some q =>
          obtain ⟨o, rfl, hT6⟩ := ow6
          refine ifF rfl ?_
          have hb := hbd q rfl
          have hm : CMulW W q.2 := wide_mul w1 hb.b1 (by decide) (by decide) (by decide)
          refine ⟨_, rfl, o, _, _, _, rfl, rfl, hT6, rfl, _, rfl, _, rfl, o, _, _, _, rfl, rfl, hT6, rfl, _, _, rfl, rfl, hm, _, _, rfl, rfl, _, rfl, ?_⟩
          by_cases cc : W * q.2 ≤ q.1
          · refine ifT (decide_eq_true cc) ?_
            have e : stepN cl W (some q) = (cl, 1) := if_pos cc
            rw [e] at fin
            exact ⟨_, rfl, (by show 2 ≤ sizeLine; decide), fun pt hpt => fin pt _ (Ex.new hpt) (SqT.of upd_same)⟩
          · refine ifF (decide_eq_false cc) ?_
            have e : stepN cl W (some q) = redF (q.1 * cl) (q.2 * W) := if_neg cc
            rw [e] at fin
            have hWp : 0 < W := by
              apply Classical.byContradiction
              intro z
              have : W = 0 := by omega
              rw [this, Int.zero_mul] at cc
              have := hb.t0
              omega
            refine ⟨_, rfl, o, _, _, _, rfl, rfl, hT6, rfl, _, rfl, _, _, rfl, rfl, wide_mul hb.t1 c1' (by decide) (by decide) (by decide), ?_⟩
            refine ⟨_, rfl, o, _, _, _, rfl, rfl, hT6, rfl, _, rfl, _, _, rfl, rfl, wide_mul hb.b1 w1 (by decide) (by decide) (by decide), ?_⟩
            exact ⟨_, _, rfl, Int.mul_pos hb.b0 hWp, pow_up (mul_bd hb.b1 w1) (by decide), fun pt hpt => fin pt _ (Ex.new hpt) (SqT.of upd_same)⟩
      · obtain ⟨⟨v5, z7, z8, z9, z10, z11, z12, rfl, ow⟩, e3⟩ := pv
        have hlen : ys2.length = (cs2.map (·.nm)).length := by rw [r6.len, List.length_map]
        rw [hlen, List.take_length, c6] at ow
        have hne2 : (pathR (RR rs) leaf).drop (pathR (RR rs) name).length ≠ [] := by
          rcases hin with z | z
          · rw [z, path_root hw.wf]
            exact path_ne (RR_names.mpr (lvs_nms hlf))
          · obtain ⟨l, hl⟩ := path_cut hw.wf leaf name z
            rw [hl, List.drop_left]
            intro e
            rw [e, List.append_nil] at hl
            have h1 := path_last (RR_names.mpr (lvs_nms hlf) : leaf ∈ (RR rs).map (·.1))
            have h2 := path_last (path_sub leaf name z)
            obtain ⟨l1, h1⟩ := h1
            obtain ⟨l2, h2⟩ := h2
            rw [h1, h2] at hl
            have := List.append_inj_right' hl rfl
            exact hne (by simpa using this)
        have hsome : ∃ q, foldN rs (kpL kn kS) S none ((pathR (RR rs) leaf).drop (pathR (RR rs) name).length) = some q := by
          obtain ⟨l2, x, hx⟩ : ∃ l2 x, (pathR (RR rs) leaf).drop (pathR (RR rs) name).length = l2 ++ [x] := ⟨_, _, (List.dropLast_concat_getLast hne2).symm⟩
          rw [hx]
          unfold foldN
          rw [List.foldl_append]
          exact ⟨_, rfl⟩
        obtain ⟨q, hq⟩ := hsome
        rw [hq] at ow
        obtain ⟨o, rfl, hT⟩ := ow
        exact ⟨_, rfl, k o H' q (e2.trans e3) hq hT⟩
theorem foldN_bd {rs : List RowD} {kp S : Str → Int} (w : WfD rs) (h : KSOk rs kp S) {name leaf : Str} {q : Int × Int} (hq : foldN rs kp S none ((pathR (RR rs) leaf).drop (pathR (RR rs) name).length) = some q) : Bd 8 q := by
  have b := fold_bd w h ((pathR (RR rs) leaf).drop (pathR (RR rs) name).length) 0 none trivial
  rw [hq] at b
  have hl : ((pathR (RR rs) leaf).drop (pathR (RR rs) name).length).length ≤ 8 := by
    rw [List.length_drop]
    have := w.path_le leaf
    omega
  have b := b.2.1
  exact ⟨b.t0, pow_up b.t1 (by omega), b.b0, pow_up b.b1 (by omega)⟩
def spFree (K : PySem.W.Frag) : Sp := fun vs H Q _ => ∃ (a ds dk : Addr) (rs : List RowD) (S : Str → Int) (kn : List Str) (kS : Str → Int) (name leaf : Str), vs = [.ref a, .ref ds, .ref dk, .str name, .str leaf] ∧ LSt K H a ds dk rs S kn kS ∧ leaf ∈ lvs rs ∧ (leaf = name ∨ InB ("" : Str) (RR rs) name leaf) ∧
  ∀ H', Ex H H' → Q (.int (freeF rs (kpL kn kS) S name leaf)) H'
theorem ok_l_free (T : Tx K mg) : Has P w K mg base CX0 4 d_l_free P_l_free (spFree K) := by
  have H_l_safe_part : Has P w K mg base CX0 3 d_l_safe_part P_l_safe_part (spSafePart K) := ok_l_safe_part T
  refine has0 T _ at_d_l_free sc_l_free (fun fd F => b_l_free F) (fun vs H Q E h => ?_) (fun cdv A outer s H vs Q E hr h => ?_)
  · obtain ⟨a, ds, dk, rs, S, kn, kS, name, leaf, rfl, _⟩ := h
    rfl
  · obtain ⟨a, ds, dk, rs, S, kn, kS, name, leaf, rfl, L, hlf, hin, k⟩ := h
    have hu := hu_of hr
    have nd := sc_l_free.nd
    refine ⟨_, (pss_cons (ps_if (pt_cmpR op_eq (pv 4) (pv 3) (nomark _)) (pss_one (ps_ret pe_int)) pss_nil)
        (pss_cons (ps_set (i := 5) nd rfl (Or.inl rfl) (pe_cl H_l_safe_part hr (by first | decide | omega) T.g_l_safe_part pass0 (pa_cons (pv 0) (pa_cons (pv 1) (pa_cons (pv 2) (pa_cons (pv 3) (pa_cons (pv 4) pa_nil)))))))
        (pss_one (ps_ret (pe_op op_fdivW (pe_op op_sub (pe_op op_mulW (pe_dget hu (pv 1) (pv 4) (fun _ _ => rfl)) (pe_ix (ixT K rfl) (pv 5) pe_int (fun _ _ => rfl))) (pe_ix (ixT K rfl) (pv 5) pe_int (fun _ _ => rfl))) (pe_ix (ixT K rfl) (pv 5) pe_int (fun _ _ => rfl))))))), ?_⟩
    refine ⟨_, rfl, _, rfl, rfl, _, rfl, ?_⟩
    by_cases c : leaf = name
    · have e : freeF rs (kpL kn kS) S name leaf = 0 := if_pos c
      rw [e] at k
      exact ifT (by simp [c]) (k H (Ex.refl _))
    · refine ifF (by simp [c]) ?_
      refine ⟨_, rfl, _, rfl, _, rfl, _, rfl, _, rfl, a, ds, dk, rs, S, kn, kS, name, leaf, rfl, L, hlf, c, hin.resolve_left c, fun p H' q e hq hT => ?_⟩
      have L' := L.ex e
      have hb := foldN_bd L.wf L.ks hq
      have ef : freeF rs (kpL kn kS) S name leaf = (S leaf * q.2 - q.1) / q.2 := by
        unfold freeF
        rw [if_neg c, hq]
        rfl
      have hs := L.ks.s1 leaf
      have hs0 := L.ks.s0 leaf
      have hS : (S leaf).natAbs < 2 ^ 220 := by
        have : (10 : Int) ^ 60 < 2 ^ 220 := by decide
        omega
      refine ⟨_, rfl, _, rfl, ds, _, rfl, get_fm L'.sz hlf, _, rfl, p, _, _, _, rfl, rfl, hT, rfl, _, _, rfl, rfl, wide_mul hS hb.b1 (by decide) (by decide) (by decide), ?_⟩
      refine ⟨_, rfl, p, _, _, _, rfl, rfl, hT, rfl, _, _, rfl, rfl, ?_⟩
      refine ⟨_, rfl, p, _, _, _, rfl, rfl, hT, rfl, _, _, rfl, rfl, ?_, ?_⟩
      · exact wide_div hb.b0 hb.b1 (by decide) (by decide)
      · rw [ef] at k
        exact k H' e
end
end K74
set_option Elab.async false
set_option linter.all false
set_option maxRecDepth 100000
set_option maxHeartbeats 4000000
/-! Comprehensions over places and over two lists at once; what a sort of places gives. -/
namespace K74
open PySem PySem.Spec PyProof.Rows L2
theorem flat_ints (ys : List Int) : (ys.map V.int).all flatV = true := by
  induction ys with
  | nil => rfl
  | cons y ys ih => exact ih
theorem inV_int (x : Int) (ys : List Int) : inV (.int x) (ys.map V.int) = decide (x ∈ ys) := by
  unfold inV
  rw [List.any_map]
  induction ys with
  | nil => rfl
  | cons y ys ih =>
    rw [List.any_cons, ih]
    show ((y == x) || _) = _
    by_cases h : y = x
    · simp [h]
    · have e : (y == x) = false := by simpa using h
      rw [e, Bool.false_or]
      have e2 : ¬ x = y := fun z => h z.symm
      simp [e2]
section
variable {K : PySem.W.Frag} {σ : L2.St} {H1 : Hp} {D a c : Addr} {g : TG} {tt : TT} {te : TE} {vs : List Nat} {Qd : Hp → Prop}
theorem lc_en {γ : Type} (L : List Int) (Rep : Hp → V → γ → Prop) (mono : ∀ H H' v c, KeepT H H' → Rep H v c → Rep H' v c) (f : Nat → Option γ) (hD : H1 D = none) (hs : SqL K H1 a (L.map V.int)) (hz : L.length ≤ 10000)
    (turn : ∀ (i : Nat) (t : Addr) (H' : Hp), i < L.length → Ex H1 H' → SqT K H' t [.int (i : Nat), .int (L.getD i 0)] → ∀ Q : Option V → Hp → Prop, (∀ y H4, Ex H' H4 → OutR Rep H4 (f i) y → Q y H4) →
      g (.ref t) (wipe σ vs) H' fun σ2 H2 => wipe σ2 vs = wipe σ vs ∧ tt σ2 H2 fun b H3 => if b = true then te σ2 H3 fun y H4 => Q (some y) H4 else Q none H3)
    (done : ∀ H' ys, Ex H1 H' → H' D = some (.lst ys) → Reps Rep H' ys ((List.range L.length).filterMap f) → Qd H') :
    ∃ W : Nat → Nat → Hp → Prop, (∃ m, W 0 m (upd H1 D (.lst []))) ∧ ∀ i m H, W i m H →
      ((Ite K a).stop i H ∧ Qd H) ∨ ((Ite K a).go i H ∧ ∃ Nx : Hp → Prop, (∀ H', Nx H' → ∃ m', m' < m ∧ W (i + 1) m' H') ∧ ∀ x H', (Ite K a).yld i H x H' → g x (wipe σ vs) H' fun σ2 H2 => wipe σ2 vs = wipe σ vs ∧ tt σ2 H2 fun b H3 =>
        if b = true then te σ2 H3 fun y H4 => ∃ acc, H4 D = some (.lst acc) ∧ acc.length < sizeLine ∧ Nx (upd H4 D (.lst (acc ++ [y]))) else Nx H3) := by
  have hg : ∀ i b, (List.range L.length)[i]? = some b → b = i ∧ i < L.length := fun i b h => by
    obtain ⟨h1, h2⟩ := List.getElem?_eq_some_iff.mp h
    rw [List.length_range] at h1
    rw [List.getElem_range] at h2
    exact ⟨h2.symm, h1⟩
  have hL : ∀ i, i < L.length → (L.map V.int)[i]? = some (.int (L.getD i 0)) := fun i h => by
    rw [List.getElem?_map, List.getElem?_eq_getElem h, List.getD_eq_getElem?_getD, List.getElem?_eq_getElem h]
    rfl
  refine lc_it (Ite K a) (List.range L.length) Rep mono f hD (by rw [List.length_range]; exact hz) (fun i b H hb e => ?_) (fun H e => ⟨_, e.l hs, by rw [List.length_map, List.length_range]; exact Nat.le_refl _⟩) (fun i b H' x H'' hb e y => ?_) done
  · obtain ⟨rfl, hi⟩ := hg i b hb
    exact ⟨_, _, e.l hs, hL _ hi⟩
  · obtain ⟨rfl, hi⟩ := hg i b hb
    obtain ⟨t, v, rfl, ht, rfl, hx⟩ := y
    have h2 := hx _ (e.l hs)
    rw [hL _ hi] at h2
    cases h2
    exact ⟨Ex.new ht, turn b t _ hi (e.trans (Ex.new ht)) (K74.SqT.of' upd_same)⟩
theorem lc_zip {β γ : Type} (bs : List β) (v1 v2 : β → V) (Rep : Hp → V → γ → Prop) (mono : ∀ H H' v c, KeepT H H' → Rep H v c → Rep H' v c) (f : β → Option γ) (hD : H1 D = none) (hs : SqL K H1 a (bs.map v1)) (hs2 : SqL K H1 c (bs.map v2)) (hz : bs.length ≤ 10000)
    (turn : ∀ (i : Nat) (b : β) (t : Addr) (H' : Hp), bs[i]? = some b → Ex H1 H' → SqT K H' t [v1 b, v2 b] → ∀ Q : Option V → Hp → Prop, (∀ y H4, Ex H' H4 → OutR Rep H4 (f b) y → Q y H4) →
      g (.ref t) (wipe σ vs) H' fun σ2 H2 => wipe σ2 vs = wipe σ vs ∧ tt σ2 H2 fun b H3 => if b = true then te σ2 H3 fun y H4 => Q (some y) H4 else Q none H3)
    (done : ∀ H' ys, Ex H1 H' → H' D = some (.lst ys) → Reps Rep H' ys (bs.filterMap f) → Qd H') :
    ∃ W : Nat → Nat → Hp → Prop, (∃ m, W 0 m (upd H1 D (.lst []))) ∧ ∀ i m H, W i m H →
      ((Itz K a c).stop i H ∧ Qd H) ∨ ((Itz K a c).go i H ∧ ∃ Nx : Hp → Prop, (∀ H', Nx H' → ∃ m', m' < m ∧ W (i + 1) m' H') ∧ ∀ x H', (Itz K a c).yld i H x H' → g x (wipe σ vs) H' fun σ2 H2 => wipe σ2 vs = wipe σ vs ∧ tt σ2 H2 fun b H3 =>
        if b = true then te σ2 H3 fun y H4 => ∃ acc, H4 D = some (.lst acc) ∧ acc.length < sizeLine ∧ Nx (upd H4 D (.lst (acc ++ [y]))) else Nx H3) := by
  refine lc_it (Itz K a c) bs Rep mono f hD hz (fun i b H hb e => ?_) (fun H e => ⟨_, _, e.l hs, e.l hs2, .inl (by rw [List.length_map]; exact Nat.le_refl _)⟩) (fun i b H' x H'' hb e y => ?_) done
  · exact ⟨_, _, v1 b, v2 b, e.l hs, e.l hs2, by rw [List.getElem?_map, hb]; rfl, by rw [List.getElem?_map, hb]; rfl⟩
  · obtain ⟨t, u1, u2, rfl, ht, rfl, h1, h2⟩ := y
    have h1 := h1 _ (e.l hs)
    have h2 := h2 _ (e.l hs2)
    rw [List.getElem?_map, hb] at h1 h2
    cases h1
    cases h2
    exact ⟨Ex.new ht, turn i b t _ hb (e.trans (Ex.new ht)) (K74.SqT.of' upd_same)⟩
end
/-! ### a sort of places -/
def RestR (rem : Nat → Int) (H : Hp) (v : V) (i : Nat) : Prop := ∃ t, v = .ref t ∧ H t = some (.tup [.int (0 - rem i), .int (i : Nat)])
theorem RestR.keep {rem : Nat → Int} {H H' : Hp} (e : KeepT H H') {v : V} {i : Nat} (h : RestR rem H v i) : RestR rem H' v i := by
  obtain ⟨t, h1, h2⟩ := h
  exact ⟨t, h1, e t _ h2 fun _ z => by cases z⟩
def keyOf (H : Hp) : V → Int × Int
  | .ref t => match H t with
    | some (.tup [.int a, .int b]) => (a, b)
    | _ => (0, 0)
  | _ => (0, 0)
theorem keyOf_at {rem : Nat → Int} {H : Hp} {v : V} {i : Nat} (h : RestR rem H v i) : keyOf H v = (0 - rem i, (i : Int)) := by
  obtain ⟨t, rfl, h⟩ := h
  unfold keyOf
  simp only [h]
theorem sorted_rests {rem : Nat → Int} {H : Hp} {n : Nat} {xs ys : List V} (hx : Reps (RestR rem) H xs (List.range n)) (hs : SrtO.Srtd (ltP (keyOf H)) ys) (hp : ys.Perm xs) : ∃ is : List Nat, Reps (RestR rem) H ys is ∧ SortedR rem n is := by
  obtain ⟨tr, rfl, h2, h3⟩ := hx
  let idx : V → Nat := fun v => (keyOf H v).2.toNat
  have hi : ∀ p, p ∈ tr → idx p.1 = p.2 := fun p hp => by
    show (keyOf H p.1).2.toNat = p.2
    rw [keyOf_at (h3 p hp)]
    exact Int.toNat_natCast _
  have hy : ∀ v, v ∈ ys → RestR rem H v (idx v) := fun v hv => by
    obtain ⟨p, hp1, rfl⟩ := List.mem_map.mp (hp.subset hv)
    rw [hi p hp1]
    exact h3 p hp1
  have hperm : (ys.map idx).Perm (List.range n) := by
    have h4 := hp.map idx
    rw [List.map_map] at h4
    rw [h2]
    have e : tr.map (idx ∘ (·.1)) = tr.map (·.2) := List.map_congr_left fun p hp => hi p hp
    rw [e] at h4
    exact h4
  refine ⟨ys.map idx, ⟨ys.map fun v => (v, idx v), by rw [List.map_map]; exact (List.map_id' ys).symm, by rw [List.map_map]; rfl, fun p hp => ?_⟩, hperm, ?_⟩
  · obtain ⟨v, hv, rfl⟩ := List.mem_map.mp hp
    exact hy v hv
  · have hnd : (ys.map idx).Nodup := hperm.nodup_iff.mpr List.nodup_range
    rw [List.pairwise_map]
    have hnd2 := List.pairwise_map.mp hnd
    refine List.Pairwise.imp_of_mem ?_ (hs.and hnd2)
    rintro u v hu hv ⟨hl, hne⟩
    have k1 := keyOf_at (hy u hu)
    have k2 := keyOf_at (hy v hv)
    have h5 := SrtO.lexB_no.mp hl
    rw [k1, k2] at h5
    have h6 : idx u ≠ idx v := hne
    unfold Ahead
    dsimp only at h5
    omega
end K74
set_option Elab.async false
set_option linter.all false
set_option maxRecDepth 100000
set_option maxHeartbeats 4000000
namespace K74
open PySem PySem.Spec PyProof.Rows L2
section
variable {P : Program} {w : World} {K : PySem.W.Frag} {mg : Str → Option Value} {base : Heap}
abbrev N_l_rounded : List Str := ["_law_some", "_law_number", "_law_whole", "_law_rests", "_law_more", "_law_ones", "_law_size", "_law_at", "_law_rest"]
abbrev P_l_rounded : List Str := ["_law_some", "_law_number"]
theorem sc_l_rounded : FnScope N_l_rounded P_l_rounded (defScope s_l_rounded) := C8.fnScope_by (by decide +kernel)
theorem b_l_rounded {K : PySem.W.Frag} {fd : FuncData} (F : FunD K d_l_rounded.name d_l_rounded.qual d_l_rounded.params d_l_rounded.body d_l_rounded.scope (d_l_rounded.dvs K) (d_l_rounded.kws K) (He.fAd K d_l_rounded.at_) fd) : L2.Binds K fd P_l_rounded [] :=
  FunD.bindsN F fun _ _ _ _ _ _ us hl => match us, hl with | [_, _], _ => rfl
abbrev N_l_lost : List Str := ["_law_rows_here", "_law_sizes", "_law_kept", "_law_name", "_law_number", "_law_inner", "_law_leaves_here", "_law_free_here", "_law_first", "_law_lost_here", "_law_left", "_law_more", "_law_whole", "_law_leaf", "_law_many_here", "_law_one", "_law_other"]
abbrev P_l_lost : List Str := ["_law_rows_here", "_law_sizes", "_law_kept", "_law_name", "_law_number"]
theorem sc_l_lost : FnScope N_l_lost P_l_lost (defScope s_l_lost) := C8.fnScope_by (by decide +kernel)
theorem b_l_lost {K : PySem.W.Frag} {fd : FuncData} (F : FunD K d_l_lost.name d_l_lost.qual d_l_lost.params d_l_lost.body d_l_lost.scope (d_l_lost.dvs K) (d_l_lost.kws K) (He.fAd K d_l_lost.at_) fd) : L2.Binds K fd P_l_lost [] :=
  FunD.bindsN F fun _ _ _ _ _ _ us hl => match us, hl with | [_, _, _, _, _], _ => rfl
def spLRounded (K : PySem.W.Frag) : Sp := fun vs H Q _ => ∃ (a : Addr) (L : List Int) (N : Int), vs = [.ref a, .int N] ∧ SqL K H a (L.map V.int) ∧ L.length ≤ 8 ∧ (∀ x, x ∈ L → 0 ≤ x ∧ x < 10 ^ 61) ∧ 0 ≤ N ∧ N ≤ L.sum ∧
  ∀ p H', H p = none → Ex H H' → H' p = some (.lst ((rnd L N).map V.int)) → Q (.ref p) H'
theorem ok_l_rounded (T : Tx K mg) : Has P w K mg base CX0 1 d_l_rounded P_l_rounded (spLRounded K) := by
  refine has0 T _ at_d_l_rounded sc_l_rounded (fun fd F => b_l_rounded F) (fun vs H Q E h => ?_) (fun cdv A outer s H vs Q E hr h => ?_)
  · obtain ⟨a, L, N, rfl, _⟩ := h
    rfl
  · obtain ⟨a, L, N, rfl, hL, hz, hb, hN, hNs, k⟩ := h
    have nd := sc_l_rounded.nd
    refine ⟨_, (pss_cons (ps_set (i := 2) nd rfl (Or.inr rfl) (pe_callB (cr_sum rfl) (by rfl) T.z_sum (by decide +kernel) (pa_cons (pv 0) pa_nil)))
        (pss_cons (ps_if (pt_cmpR op_eq (pv 1) pe_int (nomark _)) (pss_one (ps_ret (pe_lc (own := [("_law_size", 6)]) (g := gName 6) (tt := tYes) rfl nd (pi_list (pv 0)) (blkOk_by (N := N_l_rounded) (sc := defScope s_l_rounded) (by decide +kernel)) (fun _ _ _ _ _ => pg_name (i := 6) nd rfl (Or.inl rfl)) (fun _ _ _ _ _ => pts_nil) (fun _ _ _ _ _ => pe_int)))) pss_nil)
        (pss_cons (ps_set (i := 3) nd rfl (Or.inl rfl) (pe_callB cr_sortedPO (by rfl) T.z_sorted (by decide +kernel) (pa_cons (pe_lc (own := [("_law_at", 7), ("_law_size", 6)]) (tt := tYes) rfl nd (pi_enum (by rfl) T.z_enumerate (pa_cons (pv 0) pa_nil)) (blkOk_by (N := N_l_rounded) (sc := defScope s_l_rounded) (by decide +kernel)) (fun _ _ _ _ _ => pgT (n := 2) K rfl rfl (pgs_cons (pg_name (i := 7) nd rfl (Or.inl rfl)) (pgs_cons (pg_name (i := 6) nd rfl (Or.inl rfl)) pgs_nil))) (fun _ _ _ _ _ => pts_nil) (fun _ _ _ _ _ => (pe_tup (pa_cons (pe_op op_sub pe_int (pe_op op_mod (pe_callTy call_int1 (by rfl) T.z_int (by decide +kernel) (pa_cons (pe_op op_mulW (pv 1) (pv 6)) pa_nil)) (pv 2))) (pa_cons (pv 7) pa_nil))))) pa_nil)))
        (pss_cons (ps_set (i := 4) nd rfl (Or.inl rfl) (pe_op op_sub (pv 1) (pe_callB (cr_sum rfl) (by rfl) T.z_sum (by decide +kernel) (pa_cons (pe_lc (own := [("_law_size", 6)]) (g := gName 6) (tt := tYes) rfl nd (pi_list (pv 0)) (blkOk_by (N := N_l_rounded) (sc := defScope s_l_rounded) (by decide +kernel)) (fun _ _ _ _ _ => pg_name (i := 6) nd rfl (Or.inl rfl)) (fun _ _ _ _ _ => pts_nil) (fun _ _ _ _ _ => (pe_op op_fdivW (pe_op op_mulW (pv 1) (pv 6)) (pv 2)))) pa_nil))))
        (pss_cons (ps_set (i := 5) nd rfl (Or.inr rfl) (pe_lc (own := [("_law_rest", 8), ("_law_at", 7)]) (tt := tYes) rfl nd (pi_list (pe_slice (slL K rfl) (pv 3) po_none (po_some (pv 4)))) (blkOk_by (N := N_l_rounded) (sc := defScope s_l_rounded) (by decide +kernel)) (fun _ _ _ _ _ => pgT (n := 2) K rfl rfl (pgs_cons (pg_name (i := 8) nd rfl (Or.inl rfl)) (pgs_cons (pg_name (i := 7) nd rfl (Or.inl rfl)) pgs_nil))) (fun _ _ _ _ _ => pts_nil) (fun _ _ _ _ _ => (pv 7))))
        (pss_one (ps_ret (pe_lc (own := [("_law_at", 7), ("_law_size", 6)]) (tt := tYes) rfl nd (pi_enum (by rfl) T.z_enumerate (pa_cons (pv 0) pa_nil)) (blkOk_by (N := N_l_rounded) (sc := defScope s_l_rounded) (by decide +kernel)) (fun _ _ _ _ _ => pgT (n := 2) K rfl rfl (pgs_cons (pg_name (i := 7) nd rfl (Or.inl rfl)) (pgs_cons (pg_name (i := 6) nd rfl (Or.inl rfl)) pgs_nil))) (fun _ _ _ _ _ => pts_nil) (fun _ _ _ _ _ => (pe_op op_add (pe_op op_fdivW (pe_op op_mulW (pv 1) (pv 6)) (pv 2)) (pe_callTy call_int1 (by rfl) T.z_int (by decide +kernel) (pa_cons (pe_cmpR (opIn K rfl) (pv 7) (pv 5) (by rfl)) pa_nil)))))))))))), ?_⟩
    refine ⟨_, rfl, a, L, rfl, hL, ?_⟩
    refine ⟨_, rfl, rfl, _, rfl, ?_⟩
    by_cases c : N = 0
    · refine ifT (by simp [c]) ⟨_, rfl, a, rfl, ⟨_, hL⟩, fun D hD => ?_⟩
      refine lc_b L V.int (fun _ => some (V.int 0)) hD hL (by omega) (fun i x H' hx e Q q => ?_) (fun H1 e1 h1 => ?_)
      · exact ⟨rfl, q _ (Ex.refl _)⟩
      · rw [filterMap_some] at h1
        refine k D H1 hD e1 ?_
        unfold rnd
        rw [if_pos c, h1, List.map_map]
        rfl
    · refine ifF (by simp [c]) ?_
      have hW : 0 < L.sum := by omega
      have sumle : L.sum ≤ 10 ^ 61 * 8 := by
        have h1 := sum_map_le (fun p : Int => p) (fun _ => (10 : Int) ^ 61) L fun p hp => Int.le_of_lt (hb p hp).2
        rw [sum_map_const, List.map_id'] at h1
        have h2 : (10 : Int) ^ 61 * L.length ≤ 10 ^ 61 * 8 := Int.mul_le_mul_of_nonneg_left (by omega) (by decide)
        omega
      have big : (10 : Int) ^ 61 * 8 < 2 ^ 220 := by decide
      have Nb : N.natAbs < 2 ^ 220 := by omega
      have Wb : L.sum.natAbs < 2 ^ 220 := by omega
      have sb : ∀ x, x ∈ L → x.natAbs < 2 ^ 220 := fun x hx => by
        have := hb x hx
        omega
      have gb : ∀ i, i < L.length → (L.getD i 0).natAbs < 2 ^ 220 := fun i hi => by
        rw [List.getD_eq_getElem?_getD, List.getElem?_eq_getElem hi]
        exact sb _ (List.getElem_mem hi)
      refine ⟨_, rfl, a, _, rfl, hL, fun D hD => ?_⟩
      refine lc_en L (RestR (remOf L N)) (fun _ _ _ _ e h => h.keep e) (fun i => some i) hD hL (by omega) (fun i t H' hi e hT Q q => ?_) (fun H1 ys e1 h1 r1 => ?_)
      · exact ⟨t, _, rfl, hT, rfl, _, _, rfl, _, _, rfl, rfl, rfl, _, rfl, _, rfl, _, _, rfl, rfl, wide_mul Nb (gb i hi) (by decide) (by decide) (by decide), .inl ⟨_, rfl, _, rfl, _, _, rfl, rfl, hW, _, _, rfl, rfl, _, rfl, by show 2 ≤ sizeLine; decide, fun t2 ht2 => q _ _ (Ex.new ht2) ⟨_, rfl, t2, rfl, upd_same⟩⟩⟩
      · rw [List.filterMap_some] at r1
        have hxs : ∀ x, x ∈ ys → ∃ t, x = V.ref t ∧ H1 t = some (.tup [.int (keyOf H1 x).1, .int (keyOf H1 x).2]) := fun x hx => by
          obtain ⟨j, hj, e⟩ := List.mem_iff_getElem.mp hx
          obtain ⟨i, hi, hr⟩ := r1.at (i := j) (z := x) (by rw [List.getElem?_eq_getElem hj, e])
          have hk := keyOf_at hr
          obtain ⟨t, rfl, ht⟩ := hr
          exact ⟨t, rfl, by rw [hk]; exact ht⟩
        refine ⟨D, ys, keyOf H1, rfl, K74.SqL.of' h1, hxs, fun zs ps hs1 hs2 hps => ?_⟩
        obtain ⟨is, r2, so⟩ := sorted_rests r1 hs1 hs2.perm
        have eis : is = ordOf L N := sorted_unique (so.1.trans (ordOf_ok L N).1.symm) so.2 (ordOf_ok L N).2
        subst eis
        have e2 := e1.trans (Ex.new (o := .lst zs) hps)
        have h2 : (upd H1 ps (.lst zs)) ps = some (.lst zs) := upd_same
        replace r2 := r2.keep (fun _ _ _ _ e h => h.keep e) (Ex.new (o := .lst zs) hps).keepT
        obtain ⟨H2, hH2⟩ : ∃ H2, H2 = upd H1 ps (.lst zs) := ⟨_, rfl⟩
        rw [← hH2] at h2 e2 r2 ⊢
        clear hH2 hs1 hs2 hps hxs
        refine ⟨_, rfl, _, rfl, a, rfl, ⟨_, e2.l hL⟩, fun D3 hD3 => ?_⟩
        refine lc_b L V.int (fun x => some (V.int (N * x / L.sum))) hD3 (e2.l hL) (by omega) (fun i x H' hx e Q q => ?_) (fun H3 e3 h3 => ?_)
        · exact ⟨rfl, _, rfl, _, rfl, _, _, rfl, rfl, wide_mul Nb (sb x (List.mem_of_getElem? hx)) (by decide) (by decide) (by decide), _, rfl, _, _, rfl, rfl, wide_div hW Wb (by decide) (by decide), q _ (Ex.refl _)⟩
        rw [filterMap_some] at h3
        refine ⟨D3, L.map (fun x => N * x / L.sum), rfl, K74.SqL.of' (by rw [h3, List.map_map]; rfl), _, _, rfl, rfl, ?_⟩
        have hleft : N - (L.map fun x => N * x / L.sum).sum = leftOf L N := by
          unfold leftOf
          congr 1
          apply congrArg
          rw [← range_getD L, List.map_map]
          simp only [range_getD]
          apply List.map_congr_left
          intro i _
          rfl
        show gName 4 (V.int (N - (L.map fun x => N * x / L.sum).sum)) _ _ _
        rw [hleft]
        obtain ⟨lf0, lf1⟩ := left_range (N := N) hW
        obtain ⟨m, hm⟩ := Int.eq_ofNat_of_zero_le lf0
        have e23 := e2.trans e3
        refine ⟨_, rfl, _, rfl, _, rfl, ps, _, rfl, K74.SqL.of' (e3 _ _ h2), fun p5 hp5 => ?_⟩
        have ecut : cutV zs none (some (leftOf L N)) = zs.take m := by
          rw [hm]
          unfold cutV
          rw [HT.sIx_none, HT.sIx_nat, List.drop_zero]
          apply List.ext_getElem?
          intro i
          rw [List.getElem?_take, List.getElem?_take]
          by_cases ci : i < m
          · rw [if_pos ci]
            split
            · rfl
            · symm
              apply List.getElem?_eq_none
              omega
          · rw [if_neg ci, if_neg (by omega)]
        rw [ecut]
        have eo : (ordOf L N).take m = onesOf L N := by
          unfold onesOf
          rw [hm]
          rfl
        have r5 : Reps (RestR (remOf L N)) (upd H3 p5 (.lst (zs.take m))) (zs.take m) (onesOf L N) := by
          rw [← eo]
          obtain ⟨tr, t1, t2, t3⟩ := r2.keep (fun _ _ _ _ e h => h.keep e) (e3.trans (Ex.new (o := .lst (zs.take m)) hp5)).keepT
          exact ⟨tr.take m, by rw [t1, List.map_take], by rw [t2, List.map_take], fun p hp => t3 p (List.mem_of_mem_take hp)⟩
        have h5 : (upd H3 p5 (.lst (zs.take m))) p5 = some (.lst (zs.take m)) := upd_same
        have e5 := e23.trans (Ex.new (o := .lst (zs.take m)) hp5)
        obtain ⟨H5, hH5⟩ : ∃ H5, H5 = upd H3 p5 (.lst (zs.take m)) := ⟨_, rfl⟩
        rw [← hH5] at h5 e5 r5 ⊢
        clear hH5 hp5
        refine ⟨p5, rfl, ⟨_, K74.SqL.of' h5⟩, fun D6 hD6 => ?_⟩
        obtain ⟨tr, t1, t2, t3⟩ := r5
        rw [t1] at h5
        have htl : tr.length ≤ 8 := by
          have : tr.length = (onesOf L N).length := by rw [t2, List.length_map]
          rw [this]
          unfold onesOf
          rw [List.length_take, ord_len]
          omega
        refine lc_b tr (·.1) (fun p => some (V.int (p.2 : Nat))) hD6 (K74.SqL.of' h5) (by omega) (fun i p H' hp e Q q => ?_) (fun H6 e6 h6 => ?_)
        · obtain ⟨t, hv, ht⟩ := t3 p (List.mem_of_getElem? hp)
          rw [hv]
          exact ⟨t, _, rfl, K74.SqT.of' (e _ _ ht), rfl, _, _, rfl, _, _, rfl, rfl, rfl, _, rfl, q _ (Ex.refl _)⟩
        rw [filterMap_some] at h6
        have eones : (tr.map fun p => V.int (p.2 : Nat)) = ((onesOf L N).map fun i => ((i : Nat) : Int)).map V.int := by
          rw [t2, List.map_map, List.map_map]
          rfl
        rw [eones] at h6
        have e6' := e5.trans e6
        refine ⟨_, rfl, a, _, rfl, e6'.l hL, fun D7 hD7 => ?_⟩
        refine lc_en L PureR (fun _ _ _ _ _ h => h) (fun i => some (V.int (floorOf L N i + if i ∈ onesOf L N then 1 else 0))) hD7 (e6'.l hL) (by omega) (fun i t H' hi e hT Q q => ?_) (fun H7 ys e7 h7 r7 => ?_)
        · refine ⟨t, _, rfl, hT, rfl, _, _, rfl, _, _, rfl, rfl, rfl, _, rfl, _, rfl, _, _, rfl, rfl, wide_mul Nb (gb i hi) (by decide) (by decide) (by decide), _, rfl, _, _, rfl, rfl, wide_div hW Wb (by decide) (by decide), _, rfl, _, rfl, ?_⟩
          refine ⟨_, _, rfl, .inl (K74.SqL.of' (e _ _ h6)), rfl, flat_ints _, .inr ⟨_, rfl, _, _, rfl, rfl, q _ _ (Ex.refl _) ⟨_, rfl, ?_⟩⟩⟩
          rw [inV_int]
          by_cases ci : i ∈ onesOf L N
          · rw [if_pos ci, decide_eq_true (List.mem_map.mpr ⟨i, ci, rfl⟩)]
            rfl
          · rw [if_neg ci, decide_eq_false (fun z => ci (by
              obtain ⟨j, hj, e⟩ := List.mem_map.mp z
              exact (show j = i by omega) ▸ hj))]
            rfl
        · refine k D7 H7 (e6'.free hD7) (e6'.trans e7) ?_
          rw [h7, r7.pure, filterMap_some]
          unfold rnd
          rw [if_neg c, List.map_map]
          rfl
theorem zip_fst {α β : Type} {xs : List α} {ys : List β} (g : α → V) (h : xs.length = ys.length) : (xs.zip ys).map (fun p => g p.1) = xs.map g := by
  have e := List.map_fst_zip (l₁ := xs) (l₂ := ys) (by omega)
  rw [show (fun p : α × β => g p.1) = g ∘ Prod.fst from rfl, ← List.map_map, e]
theorem zip_snd {α β : Type} {xs : List α} {ys : List β} (g : β → V) (h : xs.length = ys.length) : (xs.zip ys).map (fun p => g p.2) = ys.map g := by
  have e := List.map_snd_zip (l₁ := xs) (l₂ := ys) (by omega)
  rw [show (fun p : α × β => g p.2) = g ∘ Prod.snd from rfl, ← List.map_map, e]
theorem zip_self {α β : Type} (xs : List α) (g : α → β) : xs.zip (xs.map g) = xs.map fun x => (x, g x) := by
  induction xs with
  | nil => rfl
  | cons x xs ih => simp [ih]
theorem zip_with {α β γ : Type} (f : α → β → γ) : ∀ (xs : List α) (ys : List β), (xs.zip ys).map (fun p => f p.1 p.2) = List.zipWith f xs ys
  | [], _ => rfl
  | _ :: _, [] => rfl
  | x :: xs, y :: ys => by simp [zip_with f xs ys]
theorem with_map {α β γ δ : Type} (f : δ → β → γ) (g : α → δ) : ∀ (xs : List α) (ys : List β), List.zipWith f (xs.map g) ys = List.zipWith (fun x y => f (g x) y) xs ys
  | [], _ => rfl
  | _ :: _, [] => rfl
  | x :: xs, y :: ys => by simp [with_map f g xs ys]
theorem paired_of {K : PySem.W.Frag} {H : Hp} : ∀ {ys : List V} {cs : List (Str × Int)}, Reps (PairR K) H ys cs → ∃ ps : List Addr, ys = ps.map V.ref ∧ Paired (fun p (kv : Key × V) => SqT K H p [kV kv.1, kv.2]) ps (cs.map fun p => (Sum.inr p.1, V.int p.2)) := by
  rintro ys cs ⟨tr, rfl, rfl, h⟩
  induction tr with
  | nil => exact ⟨[], rfl, .nil⟩
  | cons q tr ih =>
    obtain ⟨ps, e, hp⟩ := ih fun p hp => h p (List.mem_cons_of_mem _ hp)
    obtain ⟨t, ht, hT⟩ := h q List.mem_cons_self
    refine ⟨t :: ps, ?_, .cons hT hp⟩
    rw [List.map_cons, e, ht, List.map_cons]
def spLost (K : PySem.W.Frag) : Sp := fun vs H Q _ => ∃ (a ds dk : Addr) (rs : List RowD) (S : Str → Int) (kn : List Str) (kS : Str → Int) (name : Str) (N : Int), vs = [.ref a, .ref ds, .ref dk, .str name, .int N] ∧ LSt K H a ds dk rs S kn kS ∧ 0 ≤ N ∧ N ≤ chg rs (lvs rs) S name ∧
  ∀ d H', H d = none → Ex H H' → H' d = some (.dK (fm (lostK rs (kpL kn kS) S name N) (lostT rs (kpL kn kS) S name N))) → Q (.ref d) H'
theorem ok_l_lost (T : Tx K mg) : Has P w K mg base CX0 5 d_l_lost P_l_lost (spLost K) := by
  have H_l_below : Has P w K mg base CX0 1 d_l_below P_l_below (spLBelow K) := ok_l_below T
  have H_l_leaves : Has P w K mg base CX0 1 d_l_leaves P_l_leaves (spLeaves K) := ok_l_leaves T
  have H_l_free : Has P w K mg base CX0 4 d_l_free P_l_free (spFree K) := ok_l_free T
  have H_l_rounded : Has P w K mg base CX0 1 d_l_rounded P_l_rounded (spLRounded K) := ok_l_rounded T
  refine has0 T _ at_d_l_lost sc_l_lost (fun fd F => b_l_lost F) (fun vs H Q E h => ?_) (fun cdv A outer s H vs Q E hr h => ?_)
  · obtain ⟨a, ds, dk, rs, S, kn, kS, name, N, rfl, _⟩ := h
    rfl
  · obtain ⟨a, ds, dk, rs, S, kn, kS, name, N, rfl, L, hN, hNc, k⟩ := h
    have hu := hu_of hr
    have hw := L.wf
    have ks := L.ks
    have hlv : (lvs rs).length ≤ 8 := Nat.le_trans (lvs_len rs) hw.few
    have hLB : (LB rs name).length ≤ 8 := LB_len hw
    have nd := sc_l_lost.nd
    refine ⟨_, (pss_cons (ps_set (i := 5) nd rfl (Or.inr rfl) (pe_cl H_l_below hr (by first | decide | omega) T.g_l_below pass0 (pa_cons (pv 0) (pa_cons (pv 3) pa_nil))))
        (pss_cons (ps_setLc (i := 6) (own := [("_law_leaf", 13)]) (g := gName 13) rfl nd rfl rfl (sw_true rfl rfl rfl (by decide +kernel)) (pi_list (pe_cl H_l_leaves hr (by first | decide | omega) T.g_l_leaves pass0 (pa_cons (pv 0) pa_nil))) (blkOk_by (N := N_l_lost) (sc := defScope s_l_lost) (by decide +kernel)) (fun _ _ _ _ _ => pg_name (i := 13) nd rfl (Or.inl rfl)) (fun _ _ _ _ _ => (pts_one (pt_cmpR (opIn K rfl) (pv 13) (pv 5) (by rfl)))) (fun _ _ _ _ _ => (pv 13)))
        (pss_cons (ps_setLc (i := 7) (own := [("_law_leaf", 13)]) (g := gName 13) (tt := tYes) rfl nd rfl rfl (sw_true rfl rfl rfl (by decide +kernel)) (pi_list (pv 6)) (blkOk_by (N := N_l_lost) (sc := defScope s_l_lost) (by decide +kernel)) (fun _ _ _ _ _ => pg_name (i := 13) nd rfl (Or.inl rfl)) (fun _ _ _ _ _ => pts_nil) (fun _ _ _ _ _ => (pe_cl H_l_free hr (by first | decide | omega) T.g_l_free pass0 (pa_cons (pv 0) (pa_cons (pv 1) (pa_cons (pv 2) (pa_cons (pv 3) (pa_cons (pv 13) pa_nil))))))))
        (pss_cons (ps_set (i := 8) nd rfl (Or.inl rfl) (pe_callB (call_min2 rfl) (by rfl) T.z_min (by decide +kernel) (pa_cons (pv 4) (pa_cons (pe_callB (cr_sum rfl) (by rfl) T.z_sum (by decide +kernel) (pa_cons (pv 7) pa_nil)) pa_nil))))
        (pss_cons (ps_set (i := 9) nd rfl (Or.inl rfl) (pe_cl H_l_rounded hr (by first | decide | omega) T.g_l_rounded pass0 (pa_cons (pv 7) (pa_cons (pv 8) pa_nil))))
        (pss_cons (ps_setLc (i := 10) (own := [("_law_leaf", 13), ("_law_many_here", 14)]) (tt := tYes) rfl nd rfl rfl (sw_true rfl rfl rfl (by decide +kernel)) (pi_zip (by rfl) T.z_zip (pa_cons (pv 6) (pa_cons (pv 9) pa_nil))) (blkOk_by (N := N_l_lost) (sc := defScope s_l_lost) (by decide +kernel)) (fun _ _ _ _ _ => pgT (n := 2) K rfl rfl (pgs_cons (pg_name (i := 13) nd rfl (Or.inl rfl)) (pgs_cons (pg_name (i := 14) nd rfl (Or.inl rfl)) pgs_nil))) (fun _ _ _ _ _ => pts_nil) (fun _ _ _ _ _ => (pe_op op_sub (pe_dget hu (pv 1) (pv 13) (fun _ _ => rfl)) (pv 14))))
        (pss_cons (ps_set (i := 11) nd rfl (Or.inl rfl) (pe_cl H_l_rounded hr (by first | decide | omega) T.g_l_rounded pass0 (pa_cons (pv 10) (pa_cons (pe_op op_sub (pv 4) (pv 8)) pa_nil))))
        (pss_cons (ps_setLc (i := 12) (own := [("_law_one", 15), ("_law_other", 16)]) (tt := tYes) rfl nd rfl rfl (sw_true rfl rfl rfl (by decide +kernel)) (pi_zip (by rfl) T.z_zip (pa_cons (pv 9) (pa_cons (pv 11) pa_nil))) (blkOk_by (N := N_l_lost) (sc := defScope s_l_lost) (by decide +kernel)) (fun _ _ _ _ _ => pgT (n := 2) K rfl rfl (pgs_cons (pg_name (i := 15) nd rfl (Or.inl rfl)) (pgs_cons (pg_name (i := 16) nd rfl (Or.inl rfl)) pgs_nil))) (fun _ _ _ _ _ => pts_nil) (fun _ _ _ _ _ => (pe_op op_add (pv 15) (pv 16))))
        (pss_one (ps_ret (pe_callTy (call_dictP rfl) (by rfl) T.z_dict (by decide +kernel) (pa_cons (pe_lc (own := [("_law_leaf", 13), ("_law_many_here", 14)]) rfl nd (pi_zip (by rfl) T.z_zip (pa_cons (pv 6) (pa_cons (pv 12) pa_nil))) (blkOk_by (N := N_l_lost) (sc := defScope s_l_lost) (by decide +kernel)) (fun _ _ _ _ _ => pgT (n := 2) K rfl rfl (pgs_cons (pg_name (i := 13) nd rfl (Or.inl rfl)) (pgs_cons (pg_name (i := 14) nd rfl (Or.inl rfl)) pgs_nil))) (fun _ _ _ _ _ => (pts_one (pt_cmpR op_gt (pv 14) pe_int (nomark _)))) (fun _ _ _ _ _ => (pe_tup (pa_cons (pv 13) (pa_cons (pv 14) pa_nil))))) pa_nil)))))))))))), ?_⟩
    refine ⟨_, rfl, _, rfl, a, name, rs, rfl, L.rows, hw.few, fun p5 H1 hp5 e1 h1 => ?_⟩
    have L1 := L.ex e1
    refine ⟨_, rfl, a, rs, rfl, L1.rows, hw.few, fun pl H2 hpl e2 h2 => ?_⟩
    have L2 := L1.ex e2
    refine ⟨pl, rfl, ⟨_, K74.SqL.of' h2⟩, fun D6 hD6 => ?_⟩
    refine lc_b (lvs rs) V.str (fun l => if decide (l ∈ belowR name (RR rs)) = true then some (V.str l) else none) hD6 (K74.SqL.of' h2) (by omega) (fun i l H' hl e Q q => ?_) (fun H3 e3 h3 => ?_)
    · refine ⟨rfl, _, rfl, _, rfl, _, _, rfl, .inl (K74.SqL.of' (e _ _ (e2 _ _ h1))), rfl, flat_strs _, ?_⟩
      rw [inV_str]
      refine ⟨_, rfl, ?_⟩
      by_cases c : l ∈ belowR name (RR rs)
      · rw [if_pos (decide_eq_true c)] at q
        exact ifT (decide_eq_true c) ⟨_, rfl, q _ (Ex.refl _)⟩
      · rw [if_neg (by simp [c])] at q
        exact ifF (decide_eq_false c) (q _ (Ex.refl _))
    rw [filterMap_if (fun l => decide (l ∈ belowR name (RR rs))) V.str] at h3
    have h3' : H3 D6 = some (.lst ((LB rs name).map V.str)) := h3
    have L3 := L2.ex e3
    refine ⟨_, rfl, D6, rfl, ⟨_, K74.SqL.of' h3'⟩, fun D7 hD7 => ?_⟩
    refine lc_b (LB rs name) V.str (fun l => some (V.int (freeF rs (kpL kn kS) S name l))) hD7 (K74.SqL.of' h3') (by omega) (fun i l H' hl e Q q => ?_) (fun H4 e4 h4 => ?_)
    · have hlm := List.mem_of_getElem? hl
      refine ⟨rfl, _, rfl, _, rfl, _, rfl, _, rfl, _, rfl, a, ds, dk, rs, S, kn, kS, name, l, rfl, L3.ex e, LB_lvs hlm, ?_, fun H5 e5 => q H5 e5⟩
      have := (below_mem hw.wf name l).mp (of_decide_eq_true (List.mem_filter.mp hlm).2)
      exact this.imp id (·.2)
    rw [filterMap_some] at h4
    have h4' : H4 D7 = some (.lst ((frL rs (kpL kn kS) S name).map V.int)) := by
      rw [h4]
      unfold frL
      rw [List.map_map]
      rfl
    have L4 := L3.ex e4
    refine ⟨_, rfl, _, rfl, D7, _, rfl, K74.SqL.of' h4', N, _, rfl, ?_⟩
    show gName 8 (V.int (fstN rs (kpL kn kS) S name N)) [some (.ref a), some (.ref ds), some (.ref dk), some (.str name), some (.int N), some (.ref p5), some (.ref D6), some (.ref D7), none, none, none, none, none, none, none, none, none] _ _
    have fr := fst_range (name := name) hw ks hN
    have frb : ∀ x, x ∈ frL rs (kpL kn kS) S name → 0 ≤ x ∧ x < 10 ^ 61 := fun x hx => by
      obtain ⟨l, hl, rfl⟩ := List.mem_map.mp hx
      have h1 := freeF_range (name := name) hw ks (LB_lvs hl)
      have h2 := ks.s1 l
      have : (10 : Int) ^ 60 < 10 ^ 61 := by decide
      omega
    refine ⟨_, rfl, _, rfl, D7, frL rs (kpL kn kS) S name, fstN rs (kpL kn kS) S name N, rfl, K74.SqL.of' h4', by unfold frL; rw [List.length_map]; exact hLB, frb, fr.1, fr.2.1, fun p9 H5 hp9 e5 h5 => ?_⟩
    have L5 := L4.ex e5
    show gName 9 (V.ref p9) [some (.ref a), some (.ref ds), some (.ref dk), some (.str name), some (.int N), some (.ref p5), some (.ref D6), some (.ref D7), some (.int (fstN rs (kpL kn kS) S name N)), none, none, none, none, none, none, none, none] _ _
    have h5' : H5 p9 = some (.lst ((lostA rs (kpL kn kS) S name N).map V.int)) := h5
    have e35 := e4.trans e5
    refine ⟨_, rfl, _, rfl, D6, p9, _, _, rfl, K74.SqL.of' (e35 _ _ h3'), K74.SqL.of' h5', fun D10 hD10 => ?_⟩
    have lA := lostA_len (rs := rs) (kp := kpL kn kS) (S := S) (name := name) (N := N)
    have lB := lostB_len (rs := rs) (kp := kpL kn kS) (S := S) (name := name) (N := N)
    have lR := restL_len (rs := rs) (kp := kpL kn kS) (S := S) (name := name) (N := N)
    have lL := lostL_len (rs := rs) (kp := kpL kn kS) (S := S) (name := name) (N := N)
    refine lc_zip ((LB rs name).zip (lostA rs (kpL kn kS) S name N)) (fun p => V.str p.1) (fun p => V.int p.2) PureR (fun _ _ _ _ _ h => h) (fun p => some (V.int (S p.1 - p.2))) hD10 (by rw [zip_fst V.str lA.symm]; exact K74.SqL.of' (e35 _ _ h3')) (by rw [zip_snd V.int lA.symm]; exact K74.SqL.of' h5') (by rw [List.length_zip]; omega) (fun i b t H' hb e hT Q q => ?_) (fun H6 ys e6 h6 r6 => ?_)
    · have hbl : b.1 ∈ lvs rs := LB_lvs (List.of_mem_zip (List.mem_of_getElem? hb)).1
      exact ⟨t, _, rfl, hT, rfl, _, _, rfl, _, _, rfl, rfl, rfl, _, rfl, _, rfl, ds, _, rfl, get_fm (L5.ex e).sz hbl, _, rfl, _, _, rfl, rfl, q _ _ (Ex.refl _) ⟨_, rfl, rfl⟩⟩
    have h6' : H6 D10 = some (.lst ((restL rs (kpL kn kS) S name N).map V.int)) := by
      rw [h6, r6.pure, filterMap_some]
      unfold restL
      rw [with_map, ← zip_with, List.map_map]
      rfl
    have L6 := L5.ex e6
    have mr := more_range (name := name) hw ks hN hNc
    have rsb : ∀ x, x ∈ restL rs (kpL kn kS) S name N → 0 ≤ x ∧ x < 10 ^ 61 := fun x hx => by
      have x0 := rest_nonneg hw ks hN x hx
      obtain ⟨i, hi, e⟩ := List.mem_iff_getElem.mp hx
      rw [lR] at hi
      have hl : (LB rs name)[i]? = some (LB rs name)[i] := List.getElem?_eq_getElem hi
      obtain ⟨r, hr, r0, r1⟩ := A_at hw ks hN hl
      have h1 := rest_at hw ks hN hl hr
      rw [List.getElem?_eq_getElem (by rw [lR]; exact hi), e] at h1
      have h1 := Option.some.inj h1
      have h2 := ks.s1 (LB rs name)[i]
      have : (10 : Int) ^ 60 < 10 ^ 61 := by decide
      omega
    refine ⟨_, rfl, _, rfl, _, rfl, _, _, rfl, rfl, D10, restL rs (kpL kn kS) S name N, N - fstN rs (kpL kn kS) S name N, rfl, K74.SqL.of' h6', by rw [lR]; exact hLB, rsb, mr.1, mr.2, fun p11 H7 hp11 e7 h7 => ?_⟩
    show gName 11 (V.ref p11) [some (.ref a), some (.ref ds), some (.ref dk), some (.str name), some (.int N), some (.ref p5), some (.ref D6), some (.ref D7), some (.int (fstN rs (kpL kn kS) S name N)), some (.ref p9), some (.ref D10), none, none, none, none, none, none] _ _
    have h7' : H7 p11 = some (.lst ((lostB rs (kpL kn kS) S name N).map V.int)) := h7
    have L7 := L6.ex e7
    have e57 := e6.trans e7
    refine ⟨_, rfl, _, rfl, p9, p11, _, _, rfl, K74.SqL.of' (e57 _ _ h5'), K74.SqL.of' h7', fun D12 hD12 => ?_⟩
    refine lc_zip ((lostA rs (kpL kn kS) S name N).zip (lostB rs (kpL kn kS) S name N)) (fun p => V.int p.1) (fun p => V.int p.2) PureR (fun _ _ _ _ _ h => h) (fun p => some (V.int (p.1 + p.2))) hD12 (by rw [zip_fst V.int (lA.trans lB.symm)]; exact K74.SqL.of' (e57 _ _ h5')) (by rw [zip_snd V.int (lA.trans lB.symm)]; exact K74.SqL.of' h7') (by rw [List.length_zip]; omega) (fun i b t H' hb e hT Q q => ?_) (fun H8 ys e8 h8 r8 => ?_)
    · exact ⟨t, _, rfl, hT, rfl, _, _, rfl, _, _, rfl, rfl, rfl, _, rfl, _, rfl, _, _, rfl, rfl, q _ _ (Ex.refl _) ⟨_, rfl, rfl⟩⟩
    have h8' : H8 D12 = some (.lst ((lostL rs (kpL kn kS) S name N).map V.int)) := by
      rw [h8, r8.pure, filterMap_some]
      unfold lostL
      rw [← zip_with, List.map_map]
      rfl
    have e38 := ((e35.trans e57).trans e8)
    refine ⟨_, rfl, _, rfl, D6, D12, _, _, rfl, K74.SqL.of' (e38 _ _ h3'), K74.SqL.of' h8', fun D13 hD13 => ?_⟩
    refine lc_zip ((LB rs name).zip (lostL rs (kpL kn kS) S name N)) (fun p => V.str p.1) (fun p => V.int p.2) (PairR K) (fun _ _ _ _ e h => h.keep e) (fun p => if decide (0 < p.2) = true then some p else none) hD13 (by rw [zip_fst V.str lL.symm]; exact K74.SqL.of' (e38 _ _ h3')) (by rw [zip_snd V.int lL.symm]; exact K74.SqL.of' h8') (by rw [List.length_zip]; omega) (fun i b t H' hb e hT Q q => ?_) (fun H9 ys e9 h9 r9 => ?_)
    · refine ⟨t, _, rfl, hT, rfl, _, _, rfl, _, _, rfl, rfl, rfl, _, rfl, _, _, rfl, rfl, _, rfl, ?_⟩
      by_cases c : 0 < b.2
      · rw [if_pos (decide_eq_true c)] at q
        refine ifT (decide_eq_true c) ?_
        refine ⟨_, rfl, _, rfl, by show 2 ≤ sizeLine; decide, fun t2 ht2 => ?_⟩
        have hp : OutR (PairR K) (upd H' t2 (.tup [.str b.1, .int b.2])) (some b) (some (.ref t2)) := ⟨.ref t2, rfl, t2, rfl, K74.SqT.of' upd_same⟩
        exact q (some (.ref t2)) _ (Ex.new ht2) hp
      · rw [if_neg (by simp [c])] at q
        exact ifF (decide_eq_false c) (q _ _ (Ex.refl _) rfl)
    rw [filterMap_ifS] at r9
    obtain ⟨ps, rfl, hp⟩ := paired_of r9
    refine ⟨D13, ps, _, rfl, K74.SqL.of' h9, hp, fun pd hpd => ?_⟩
    have e09 := ((((((e1.trans e2).trans e3).trans e38).trans e9)))
    refine k pd _ (e09.free hpd) (e09.trans (Ex.new hpd)) ?_
    rw [upd_same]
    have hT := ofL_map (LB_nodup (name := name) hw) (vs := lostL rs (kpL kn kS) S name N) lL
    have e1 : (LB rs name).zip (lostL rs (kpL kn kS) S name N) = (LB rs name).map fun l => (l, lostT rs (kpL kn kS) S name N l) := by
      rw [← zip_self]
      exact congrArg _ hT.symm
    have e2 : ((((LB rs name).zip (lostL rs (kpL kn kS) S name N)).filter fun p => decide (0 < p.2)).map fun p => ((Sum.inr p.1 : Key), V.int p.2)) = fm (lostK rs (kpL kn kS) S name N) (lostT rs (kpL kn kS) S name N) := by
      rw [e1, List.filter_map, List.map_map]
      rfl
    rw [e2, fm_mergeNil (show (lostK rs (kpL kn kS) S name N).Nodup from (LB_nodup hw).filter _)]
end
end K74
set_option Elab.async false
set_option linter.all false
set_option maxRecDepth 100000
set_option maxHeartbeats 4000000
namespace K74
open PySem PySem.Spec PyProof.Rows L2
section
variable {P : Program} {w : World} {K : PySem.W.Frag} {mg : Str → Option Value} {base : Heap}
abbrev N_rounded_parts : List Str := ["parts", "number", "whole", "found", "left", "rests", "turn", "most", "name", "size"]
abbrev P_rounded_parts : List Str := ["parts", "number"]
theorem sc_rounded_parts : FnScope N_rounded_parts P_rounded_parts (defScope s_rounded_parts) := C8.fnScope_by (by decide +kernel)
theorem b_rounded_parts {K : PySem.W.Frag} {fd : FuncData} (F : FunD K d_rounded_parts.name d_rounded_parts.qual d_rounded_parts.params d_rounded_parts.body d_rounded_parts.scope (d_rounded_parts.dvs K) (d_rounded_parts.kws K) (He.fAd K d_rounded_parts.at_) fd) : L2.Binds K fd P_rounded_parts [] :=
  FunD.bindsN F fun _ _ _ _ _ _ us hl => match us, hl with | [_, _], _ => rfl
def spRounded (K : PySem.W.Frag) : Sp := fun vs H Q _ => ∃ (a : Addr) (pp : List (Str × Int)) (N : Int), vs = [.ref a, .int N] ∧ PairsAt K H a pp ∧ (pp.map (·.1)).Nodup ∧ pp.length ≤ 8 ∧ (∀ p, p ∈ pp → 0 ≤ p.2 ∧ p.2 < 10 ^ 61) ∧ 0 < N ∧ N ≤ (pp.map (·.2)).sum ∧
  ∀ d H' R, H d = none → Ex H H' → H' d = some (.dK (fm (pp.map (·.1)) R)) → (pp.map (·.1)).map R = rnd (pp.map (·.2)) N → Q (.ref d) H'
theorem sum_fm {ls : List Str} {F : Str → Int} {vs : List Int} (h : ls.map F = vs) : ((ls.map F).map V.int) = vs.map V.int := by rw [h]
theorem ok_rounded_parts (T : Tx K mg) : Has P w K mg base CX0 1 d_rounded_parts P_rounded_parts (spRounded K) := by
  refine has0 T _ at_d_rounded_parts sc_rounded_parts (fun fd F => b_rounded_parts F) (fun vs H Q E h => ?_) (fun cdv A outer s H vs Q E hr h => ?_)
  · obtain ⟨a, pp, N, rfl, _⟩ := h
    rfl
  · obtain ⟨a, pp, N, rfl, hP, nd0, hz, hb, hN, hNs, k⟩ := h
    have hu := hu_of hr
    generalize hls : pp.map (·.1) = ls at *
    generalize hLg : pp.map (·.2) = L at *
    have hlen : ls.length = L.length := by rw [← hls, ← hLg, List.length_map, List.length_map]
    have hW : 0 < L.sum := by omega
    have hlz : ls.length ≤ 8 := by rw [← hls, List.length_map]; exact hz
    have lsat : ∀ (i : Nat) (p : Str × Int), pp[i]? = some p → ls[i]? = some p.1 := fun i p h => by rw [← hls, List.getElem?_map, h]; rfl
    have Lat : ∀ (i : Nat) (p : Str × Int), pp[i]? = some p → L.getD i 0 = p.2 := fun i p h => by
      rw [List.getD_eq_getElem?_getD, ← hLg, List.getElem?_map, h]
      rfl
    have sumle : L.sum ≤ 10 ^ 61 * 8 := by
      have h1 := sum_map_le (fun p : Str × Int => p.2) (fun _ => (10 : Int) ^ 61) pp fun p hp => Int.le_of_lt (hb p hp).2
      rw [sum_map_const] at h1
      have h2 : (10 : Int) ^ 61 * pp.length ≤ 10 ^ 61 * 8 := Int.mul_le_mul_of_nonneg_left (by omega) (by decide)
      have e : pp.map (fun p : Str × Int => p.2) = L := hLg
      rw [e] at h1
      omega
    have big : (10 : Int) ^ 61 * 8 < 2 ^ 220 := by decide
    have Nb : N.natAbs < 2 ^ 220 := by omega
    have Wb : L.sum.natAbs < 2 ^ 220 := by omega
    have sb : ∀ p, p ∈ pp → p.2.natAbs < 2 ^ 220 := fun p hp => by
      have := hb p hp
      omega
    have nd := sc_rounded_parts.nd
    refine ⟨_, (pss_cons (ps_set (i := 2) nd rfl (Or.inr rfl) (pe_callB (cr_sum rfl) (by rfl) T.z_sum (by decide +kernel) (pa_cons (pe_lc (own := [("name", 8), ("size", 9)]) (tt := tYes) rfl nd (pi_list (pv 0)) (blkOk_by (N := N_rounded_parts) (sc := defScope s_rounded_parts) (by decide +kernel)) (fun _ _ _ _ _ => pgT (n := 2) K rfl rfl (pgs_cons (pg_name (i := 8) nd rfl (Or.inl rfl)) (pgs_cons (pg_name (i := 9) nd rfl (Or.inl rfl)) pgs_nil))) (fun _ _ _ _ _ => pts_nil) (fun _ _ _ _ _ => (pv 9))) pa_nil)))
        (pss_cons (ps_set (i := 3) nd rfl (Or.inr rfl) (pe_dc (own := [("name", 8), ("size", 9)]) (tt := tYes) rfl nd (pi_list (pv 0)) (blkOk_by (N := N_rounded_parts) (sc := defScope s_rounded_parts) (by decide +kernel)) (fun _ _ _ _ _ => pgT (n := 2) K rfl rfl (pgs_cons (pg_name (i := 8) nd rfl (Or.inl rfl)) (pgs_cons (pg_name (i := 9) nd rfl (Or.inl rfl)) pgs_nil))) (fun _ _ _ _ _ => pts_nil) (fun _ _ _ _ _ => (pv 8)) (fun _ _ _ _ _ => (pe_op op_fdivW (pe_op op_mulW (pv 1) (pv 9)) (pv 2)))))
        (pss_cons (ps_set (i := 4) nd rfl (Or.inl rfl) (pe_op op_sub (pv 1) (pe_callB (cr_sum rfl) (by rfl) T.z_sum (by decide +kernel) (pa_cons (pe_lockO (pe_lc (own := [("name", 8)]) (g := gName 8) (tt := tYes) rfl nd (pi_keys (pv 3)) (blkOk_by (N := N_rounded_parts) (sc := defScope s_rounded_parts) (by decide +kernel)) (fun _ _ _ _ _ => pg_name (i := 8) nd rfl (Or.inl rfl)) (fun _ _ _ _ _ => pts_nil) (fun _ _ _ _ _ => (pe_dget hu (pv 3) (pv 8) (fun _ _ => rfl))))) pa_nil))))
        (pss_cons (ps_set (i := 5) nd rfl (Or.inr rfl) (pe_dc (own := [("name", 8), ("size", 9)]) (tt := tYes) rfl nd (pi_list (pv 0)) (blkOk_by (N := N_rounded_parts) (sc := defScope s_rounded_parts) (by decide +kernel)) (fun _ _ _ _ _ => pgT (n := 2) K rfl rfl (pgs_cons (pg_name (i := 8) nd rfl (Or.inl rfl)) (pgs_cons (pg_name (i := 9) nd rfl (Or.inl rfl)) pgs_nil))) (fun _ _ _ _ _ => pts_nil) (fun _ _ _ _ _ => (pv 8)) (fun _ _ _ _ _ => (pe_op op_mod (pe_op op_mulW (pv 1) (pv 9)) (pv 2)))))
        (pss_cons (ps_for PassesOwn.never rfl (pi_range1 (by rfl) T.z_range (pa_cons (pv 4) pa_nil)) (pg_name (i := 6) nd rfl (Or.inl rfl))
          (pss_cons (ps_set (i := 7) nd rfl (Or.inr rfl) (pe_callB (cr_max rfl) (by rfl) T.z_max (by decide +kernel) (pa_cons (pe_lockO (pe_lc (own := [("name", 8)]) (g := gName 8) (tt := tYes) rfl nd (pi_keys (pv 5)) (blkOk_by (N := N_rounded_parts) (sc := defScope s_rounded_parts) (by decide +kernel)) (fun _ _ _ _ _ => pg_name (i := 8) nd rfl (Or.inl rfl)) (fun _ _ _ _ _ => pts_nil) (fun _ _ _ _ _ => (pe_dget hu (pv 5) (pv 8) (fun _ _ => rfl))))) pa_nil)))
            (pss_cons (ps_set (i := 8) nd rfl (Or.inl rfl) (pe_ix (ixL K rfl) (pe_lc (own := [("name", 8), ("size", 9)]) rfl nd (pi_list (pv 0)) (blkOk_by (N := N_rounded_parts) (sc := defScope s_rounded_parts) (by decide +kernel)) (fun _ _ _ _ _ => pgT (n := 2) K rfl rfl (pgs_cons (pg_name (i := 8) nd rfl (Or.inl rfl)) (pgs_cons (pg_name (i := 9) nd rfl (Or.inl rfl)) pgs_nil))) (fun _ _ _ _ _ => (pts_one (PW.pt (pw_and (pt_cmp (pc_din hu (pv 8) (pv 5))) (pw_and1 (pt_cmpR op_eq (pe_dget hu (pv 5) (pv 8) (fun _ _ => rfl)) (pv 7) (nomark _))))))) (fun _ _ _ _ _ => (pv 8))) pe_int (fun _ _ => rfl)))
            (pss_cons (ps_daug hu (pv 3) (pv 8) pe_int in_add (fun _ _ _ => rfl))
            (pss_one (ps_expr (pe_dpop1 (pv 5) (pv 8) ⟨rfl, rfl, rfl, rfl⟩)))))))
        (pss_one (ps_ret (pv 3)))))))), ?_⟩
    -- whole
    refine ⟨_, rfl, a, rfl, hP.sq, fun D1 hD1 => ?_⟩
    refine lc_pairs hP hz (fun p => some (V.int p.2)) hD1 (fun i t p H' hi e hT Q q => ?_) (fun H1 e1 h1 => ?_)
    · exact ⟨t, _, rfl, hT, rfl, _, _, rfl, _, _, rfl, rfl, rfl, _, rfl, q _ (Ex.refl _)⟩
    rw [filterMap_some] at h1
    refine ⟨D1, L, rfl, K74.SqL.of' (by rw [h1, ← hLg, List.map_map]; rfl), ?_⟩
    have hP1 := hP.ex e1
    -- found
    refine ⟨_, rfl, a, rfl, hP1.sq, fun D2 hD2 => ?_⟩
    refine dc_pairs hP1 hz (fun p => some (Sum.inr p.1, V.int (N * p.2 / L.sum))) hD2 (fun i t p H' hi e hT Q q => ?_) (fun H2 e2 h2 => ?_)
    · exact ⟨t, _, rfl, hT, rfl, _, _, rfl, _, _, rfl, rfl, rfl, _, rfl, _, rfl, _, rfl, _, _, rfl, rfl, wide_mul Nb (sb p (List.mem_of_getElem? hi)) (by decide) (by decide) (by decide), _, rfl, _, _, rfl, rfl, wide_div hW Wb (by decide) (by decide), q _ (Ex.refl _)⟩
    rw [filterMap_some, pairs_fm (hls ▸ nd0)] at h2
    rw [hls] at h2
    rw [fm_mergeNil nd0] at h2
    generalize hF0 : ofL ls (pp.map fun p => N * p.2 / L.sum) = F0 at h2
    have hF0' : ∀ i n, ls[i]? = some n → F0 n = floorOf L N i := fun i n hn => by
      have hi := (List.getElem?_eq_some_iff.mp hn).1
      have hip : i < pp.length := by rw [← hls, List.length_map] at hi; exact hi
      have hp : pp[i]? = some pp[i] := List.getElem?_eq_getElem hip
      rw [← hF0, ofL_at nd0 hn (v := N * (pp[i]).2 / L.sum) (by rw [List.getElem?_map, hp]; rfl)]
      unfold floorOf
      rw [Lat i _ hp]
    have hP2 := hP1.ex e2
    -- left
    refine ⟨_, rfl, keysS (.inl h2) hlz (fun n => some (V.int (F0 n))) (fun od Hl g1 g2 Q1 q1 => ⟨_, rfl, q1⟩) (fun n od Hl H' hn g1 g2 e Q q => ?_) (fun D3 H3 hD3 e3 h3 => ?_)⟩
    · exact ⟨rfl, _, rfl, _, rfl, D2, _, rfl, get_fm (.inr ⟨od, e _ _ g1⟩) hn, q _ (Ex.refl _)⟩
    rw [filterMap_some] at h3
    refine ⟨D3, ls.map F0, rfl, K74.SqL.of' (by rw [h3, List.map_map]; rfl), _, _, rfl, rfl, ?_⟩
    have hleft : N - (ls.map F0).sum = leftOf L N := by
      unfold leftOf
      congr 1
      apply congrArg
      apply List.ext_getElem?
      intro i
      rw [List.getElem?_map, List.getElem?_map]
      cases hn : ls[i]? with
      | none =>
        have : (List.range L.length)[i]? = none := by
          rw [List.getElem?_eq_none_iff] at hn ⊢
          rw [List.length_range]
          omega
        rw [this]
        rfl
      | some n =>
        have hi := (List.getElem?_eq_some_iff.mp hn).1
        rw [List.getElem?_range (by omega)]
        show some (F0 n) = some _
        rw [hF0' i n hn]
    show gName 4 (V.int (N - (ls.map F0).sum)) _ _ _
    rw [hleft]
    have h23 := e3 _ _ h2
    have hP3 := hP2.ex e3
    obtain ⟨lf0, lf1⟩ := left_range (N := N) hW
    -- rests
    refine ⟨_, rfl, a, rfl, hP3.sq, fun D4 hD4 => ?_⟩
    refine dc_pairs hP3 hz (fun p => some (Sum.inr p.1, V.int (N * p.2 % L.sum))) hD4 (fun i t p H' hi e hT Q q => ?_) (fun H4 e4 h4 => ?_)
    · exact ⟨t, _, rfl, hT, rfl, _, _, rfl, _, _, rfl, rfl, rfl, _, rfl, _, rfl, _, rfl, _, _, rfl, rfl, wide_mul Nb (sb p (List.mem_of_getElem? hi)) (by decide) (by decide) (by decide), _, rfl, _, _, rfl, rfl, hW, q _ (Ex.refl _)⟩
    rw [filterMap_some, pairs_fm (hls ▸ nd0)] at h4
    rw [hls] at h4
    rw [fm_mergeNil nd0] at h4
    generalize hrm : ofL ls (pp.map fun p => N * p.2 % L.sum) = rm at h4
    have hrm' : ∀ i n, ls[i]? = some n → rm n = remOf L N i := fun i n hn => by
      have hi := (List.getElem?_eq_some_iff.mp hn).1
      have hip : i < pp.length := by rw [← hls, List.length_map] at hi; exact hi
      have hp : pp[i]? = some pp[i] := List.getElem?_eq_getElem hip
      rw [← hrm, ofL_at nd0 hn (v := N * (pp[i]).2 % L.sum) (by rw [List.getElem?_map, hp]; rfl)]
      unfold remOf
      rw [Lat i _ hp]
    have h24 := e4 _ _ h23
    have hP4 := hP3.ex e4
    have n24 : D2 ≠ D4 := fun e => by
      rw [e, hD4] at h23
      cases h23
    have e14 := ((e1.trans e2).trans e3).trans e4
    have lf62 : leftOf L N < 2 ^ 62 := by
      have : (8 : Int) < 2 ^ 62 := by decide
      omega
    refine ⟨_, rfl, _, rfl, by omega, lf62, ?_⟩
    refine for_range (lo := 0) (n := (leftOf L N).toNat) (fun t σ H' => (∃ z6 z7 z8, σ = [some (.ref a), some (.int N), some (.int L.sum), some (.ref D2), some (.int (leftOf L N)), some (.ref D4), z6, z7, z8, none]) ∧ Keep [D2, D4] H4 H' ∧
        ∃ F ks, H' D2 = some (.dK (fm ls F)) ∧ H' D4 = some (.dK (fm ks rm)) ∧ RSt ls L N t F ks rm)
      ⟨⟨_, _, _, rfl⟩, fun _ _ h _ => h, F0, ls, h24, h4, fun i n hn => by rw [hF0' i n hn, List.take_zero, if_neg (by simp)]; omega, fun i n hn => by rw [List.take_zero]; simp [List.mem_of_getElem? hn], fun n h => h, nd0, hrm'⟩
      (fun t σ H' ht pv => ?_) (fun σ H' pv => ?_)
    · obtain ⟨⟨z6, z7, z8, rfl⟩, kp, F, ks, g1, g2, rs⟩ := pv
      have htl : t < (ordOf L N).length := by rw [ord_len]; omega
      have hot : (ordOf L N)[t]? = some (ordOf L N)[t] := List.getElem?_eq_getElem htl
      generalize (ordOf L N)[t] = it at hot
      have hil : it < L.length := by
        have := (ordOf_ok L N).1.subset (List.mem_of_getElem? hot)
        exact List.mem_range.mp this
      have hip : it < pp.length := by rw [← hLg, List.length_map] at hil; exact hil
      have hpi : pp[it]? = some pp[it] := List.getElem?_eq_getElem hip
      generalize pp[it] = pt at hpi
      have hni := lsat it pt hpi
      have hkz : ks.length ≤ 8 := Nat.le_trans (nodup_le rs.nd rs.sub) hlz
      have keepP : ∀ H'', Keep [D2, D4] H4 H'' → PairsAt K H'' a pp := fun H'' kk => by
        obtain ⟨xs, hs, tr, rfl, rfl, hT⟩ := hP4
        have kt : ∀ (b : Addr) (o : HO), H4 b = some o → (∀ kvs, o ≠ .dK kvs) → H'' b = some o := fun b o hb hn => kk b o hb fun z => by
          rcases List.mem_cons.mp z with e | e
          · rw [e, h24] at hb
            exact hn _ (Option.some.inj hb).symm
          · rw [List.mem_singleton.mp e, h4] at hb
            exact hn _ (Option.some.inj hb).symm
        refine ⟨_, ?_, tr, rfl, rfl, fun p hp => ?_⟩
        · rcases hs with (h | ⟨o, h⟩) | h
          · exact .inl (.inl (kt _ _ h fun _ z => by cases z))
          · exact .inl (.inr ⟨o, kt _ _ h fun _ z => by cases z⟩)
          · exact .inr h
        · obtain ⟨q, h1, h2⟩ := hT p hp
          refine ⟨q, h1, ?_⟩
          rcases h2 with (h | ⟨o, h⟩) | h
          · exact .inl (.inl (kt _ _ h fun _ z => by cases z))
          · exact .inl (.inr ⟨o, kt _ _ h fun _ z => by cases z⟩)
          · exact .inr h
      refine keysS (.inl g2) hkz (fun n => some (V.int (rm n))) (fun od Hl u1 u2 Q1 q1 => ⟨_, rfl, q1⟩) (fun n od Hl H'' hn u1 u2 e Q q => ?_) (fun D5 H5 hD5 e5 h5 => ?_)
      · exact ⟨rfl, _, rfl, _, rfl, D4, _, rfl, get_fm (.inr ⟨od, e _ _ u1⟩) hn, q _ (Ex.refl _)⟩
      rw [filterMap_some] at h5
      have hkpos : 0 < (ks.map rm).length := by
        rw [List.length_map]
        exact List.length_pos_of_mem ((rs.mem it pt.1 hni).mpr (not_take hot))
      refine ⟨D5, ks.map rm, rfl, K74.SqL.of' (by rw [h5, List.map_map]; rfl), hkpos, fun m hm1 hm2 => ?_⟩
      obtain ⟨hnk, hmv⟩ := rs.top hlen hot hni hm1 hm2
      have g15 := e5 _ _ g1
      have g25 := e5 _ _ g2
      have k5 := kp.exL e5
      have hP5 := keepP _ k5
      refine ⟨_, rfl, a, rfl, hP5.sq, fun D6 hD6 => ?_⟩
      refine lc_pairs hP5 hz (fun p => if (decide (p.1 ∈ ks) && decide (rm p.1 = m)) = true then some (V.str p.1) else none) hD6 (fun i t p H' hi e hT Q q => ?_) (fun H6 e6 h6 => ?_)
      · refine ⟨t, _, rfl, hT, rfl, _, _, rfl, _, _, rfl, rfl, rfl, _, rfl, _, rfl, D4, _, rfl, get_fmO p.1 (.inl (e _ _ g25)), _, rfl, ?_⟩
        by_cases c1 : p.1 ∈ ks
        · rw [if_pos c1]
          refine ifT rfl ⟨_, rfl, _, rfl, D4, _, rfl, get_fm (.inl (e _ _ g25)) c1, _, rfl, rfl, _, rfl, ?_⟩
          by_cases c2 : rm p.1 = m
          · rw [if_pos (by rw [decide_eq_true c1, decide_eq_true c2]; rfl)] at q
            exact ifT (by simp [c2]) ⟨_, rfl, q _ (Ex.refl _)⟩
          · rw [if_neg (by rw [decide_eq_false c2, Bool.and_false]; decide)] at q
            exact ifF (by simp [c2]) (q _ (Ex.refl _))
        · rw [if_neg c1]
          rw [if_neg (by rw [decide_eq_false c1, Bool.false_and]; decide)] at q
          exact ifF rfl (q _ (Ex.refl _))
      rw [filterMap_if (fun p : Str × Int => decide (p.1 ∈ ks) && decide (rm p.1 = m)) (fun p => V.str p.1)] at h6
      have hhead := filter_head (q := fun p : Str × Int => decide (p.1 ∈ ks) && decide (rm p.1 = m)) hpi (by rw [decide_eq_true hnk, decide_eq_true (by rw [hmv]; exact rs.rm it pt.1 hni)]; rfl) fun j p hj hp => by
        by_cases c1 : p.1 ∈ ks
        · have c3 : ¬ rm p.1 = m := by rw [hmv]; exact rs.first hlen hot hj (lsat j p hp) c1
          rw [decide_eq_false c3, Bool.and_false]
        · rw [decide_eq_false c1, Bool.false_and]
      have g16 := e6 _ _ g15
      have g26 := e6 _ _ g25
      refine ⟨D6, _, 0, .str pt.1, rfl, rfl, K74.SqL.of' h6, atI_nat (j := 0) (by rw [List.getElem?_map, hhead]; rfl), ?_⟩
      have hnl : pt.1 ∈ ls := List.mem_of_getElem? hni
      refine ⟨_, rfl, _, rfl, D2, _, rfl, get_fm (.inl g16) hnl, _, _, rfl, rfl, _, DPut.k (k := Sum.inr pt.1) g16 (by rw [fm_len, sizeLine_eq]; omega), ?_⟩
      rw [fm_put hnl]
      have g27 : (upd H6 D2 (.dK (fm ls (setS F pt.1 (F pt.1 + 1))))) D4 = some (.dK (fm ks rm)) := by
        rw [upd_ne (Ne.symm n24)]
        exact g26
      refine ⟨_, rfl, D4, rfl, .inl ⟨_, .inl g27⟩, _, rfl, _, Sum.inr pt.1, .int (rm pt.1), g27, rfl, fm_get hnk, ?_⟩
      rw [fm_drop]
      refine ⟨⟨_, _, _, rfl⟩, ?_, setS F pt.1 (F pt.1 + 1), ks.filter fun x => decide (x ≠ pt.1), by rw [upd_ne n24]; exact upd_same, upd_same, rs.next nd0 hot hni⟩
      exact ((k5.exL e6).trans ((Keep.upd _).mono fun x h => by rw [List.mem_singleton.mp h]; simp)).trans ((Keep.upd _).mono fun x h => by rw [List.mem_singleton.mp h]; simp)
    · obtain ⟨⟨z6, z7, z8, rfl⟩, kp, F, ks, g1, g2, rs⟩ := pv
      refine ⟨_, rfl, k D2 H' F (e1.free hD2) (fun b o hb => kp b o (e14 _ _ hb) fun z => ?_) g1 (rs.fin hlen (by omega))⟩
      rcases List.mem_cons.mp z with e | e
      · rw [e, e1.free hD2] at hb
        cases hb
      · rw [List.mem_singleton.mp e, ((e1.trans e2).trans e3).free hD4] at hb
        cases hb
end
end K74
set_option Elab.async false
set_option linter.all false
set_option maxRecDepth 100000
set_option maxHeartbeats 4000000
namespace K74
open PySem PySem.Spec PyProof.Rows L2
section
variable {P : Program} {w : World} {K : PySem.W.Frag} {mg : Str → Option Value} {base : Heap}
abbrev N_Machine_take_back : List Str := ["self", "name", "number", "names", "leaves", "free", "some", "first", "lost", "left", "more", "found", "leaf", "size"]
abbrev P_Machine_take_back : List Str := ["self", "name", "number"]
theorem sc_Machine_take_back : FnScope N_Machine_take_back P_Machine_take_back (defScope s_Machine_take_back) := C8.fnScope_by (by decide +kernel)
theorem b_Machine_take_back {K : PySem.W.Frag} {fd : FuncData} (F : FunD K d_Machine_take_back.name d_Machine_take_back.qual d_Machine_take_back.params d_Machine_take_back.body d_Machine_take_back.scope (d_Machine_take_back.dvs K) (d_Machine_take_back.kws K) (He.fAd K d_Machine_take_back.at_) fd) : L2.Binds K fd P_Machine_take_back [] :=
  FunD.bindsN F fun _ _ _ _ _ _ us hl => match us, hl with | [_, _, _], _ => rfl
theorem foldN_some {rs : List RowD} {kp S : Str → Int} : ∀ (r : List Str) (q : Int × Int), ∃ p, foldN rs kp S (some q) r = some p
  | [], q => ⟨q, rfl⟩
  | c :: r, q => foldN_some r _
theorem free_val {c : MC} {v : MV} (w : WfD c.rs) {x l : Str} (hl : l ∈ lvs c.rs) (hne : l ≠ x) (hb : InB ("" : Str) (RR c.rs) x l) : valB c v none x l = freeF c.rs (kpF c) v.S x l := by
  obtain ⟨d, hd, hp⟩ := below_kid w.wf (RR_names.mpr (lvs_nms hl)) hb hne
  unfold valB freeF
  rw [if_neg hne, rest_kid w.wf hd hp]
  obtain ⟨p, e⟩ := foldN_some (rs := c.rs) (kp := kpF c) (S := v.S) ((pathR (RR c.rs) l).drop (pathR (RR c.rs) d).length) (stepN (clm c.rs (kpF c) v.S d) (wk c.rs (kpF c) v.S (parN c.rs d)) none)
  have e2 : foldN c.rs (kpF c) v.S none (d :: (pathR (RR c.rs) l).drop (pathR (RR c.rs) d).length) = some p := e
  rw [e2]
  rfl
theorem LB_in {rs : List RowD} (w : WfD rs) {x l : Str} (h : l ∈ LB rs x) : l = x ∨ InB ("" : Str) (RR rs) x l := by
  have := of_decide_eq_true (List.mem_filter.mp h).2
  rcases (below_mem w.wf x l).mp this with e | ⟨_, e⟩
  · exact .inl e
  · exact .inr e
theorem getD_lk (fs : List Str) (F : Str → Int) (l : Str) : (if l ∈ fs then some (V.int (F l)) else none).getD (.int 0) = V.int ((lkO fs F l).getD 0) := by
  unfold lkO
  split <;> rfl
theorem MSt.upS {S0 H H' : Hp} {a : MA} {c : MC} {v : MV} {d : Addr} {S : Str → Int} (M : MSt K S0 H a c v) (k : Keep [a.sz, d] H H') (d0 : S0 d = none) (dn : d ∉ mutA a) (hs : H' a.sz = some (.dK (fm (K74.nms c.rs) S))) (ok : MvOk c { v with S := S }) : MSt K S0 H' a c { v with S := S } := by
  simp only [List.mem_cons, List.mem_nil_iff, or_false, not_or] at dn
  refine ⟨fun b o hb => k b o (M.ex b o hb) (fun z => ?_), M.tree, M.mt, M.mp, M.sf, M.nme, M.npl, M.nsz, M.ne, k _ _ M.me (fun z => ?_), k _ _ M.pl (fun z => ?_), hs, M.ok, ok⟩
  · rcases List.mem_cons.mp z with e | e
    · rw [e, M.nsz] at hb
      cases hb
    · rw [List.mem_singleton.mp e, d0] at hb
      cases hb
  · rcases List.mem_cons.mp z with e | e
    · exact M.nms e
    · exact dn.1 (List.mem_singleton.mp e).symm
  · rcases List.mem_cons.mp z with e | e
    · exact M.ne e
    · exact dn.2.1 (List.mem_singleton.mp e).symm
theorem MSt.notin {S0 H : Hp} {a : MA} {c : MC} {v : MV} {d : Addr} (M : MSt K S0 H a c v) (h : H d = none) : S0 d = none ∧ d ∉ mutA a := by
  refine ⟨M.ex.free h, fun z => ?_⟩
  simp only [List.mem_cons, List.mem_nil_iff, or_false] at z
  rcases z with rfl | rfl | rfl
  · rw [M.me] at h
    cases h
  · rw [M.pl] at h
    cases h
  · rw [M.sz] at h
    cases h
theorem subS_snoc (S : Str → Int) (ks : List Str) (T : Str → Int) {n : Str} (h : n ∉ ks) : setS (subS S ks T) n (subS S ks T n - T n) = subS S (ks ++ [n]) T := by
  funext x
  unfold setS
  by_cases e : x = n
  · subst e
    rw [if_pos rfl]
    unfold subS
    rw [if_neg h, if_pos (by simp)]
  · rw [if_neg e]
    unfold subS
    by_cases hx : x ∈ ks
    · rw [if_pos hx, if_pos (List.mem_append_left _ hx)]
    · rw [if_neg hx, if_neg (fun z => (List.mem_append.mp z).elim hx fun z => e (List.mem_singleton.mp z))]
theorem zip_maps {α : Type} (f : Int → Int → Int) (g h : α → Int) : ∀ xs : List α, List.zipWith f (xs.map g) (xs.map h) = xs.map fun x => f (g x) (h x)
  | [] => rfl
  | x :: xs => by simp only [List.map_cons, List.zipWith_cons_cons, zip_maps f g h xs]
theorem rnd_zero (L : List Int) : rnd L 0 = L.map fun _ => 0 := if_pos rfl
theorem at_map {ls : List Str} {R : Str → Int} {vs : List Int} (h : ls.map R = vs) {i : Nat} {l : Str} (hl : ls[i]? = some l) : vs[i]? = some (R l) := by
  rw [← h, List.getElem?_map, hl]
  rfl
def spTakeBack (K : PySem.W.Frag) : Sp := fun vs H Q E => ∃ (S0 : Hp) (a : MA) (c : MC) (v : MV) (x : Str) (N : Int), vs = [.ref a.me, .str x, .int N] ∧ MSt K S0 H a c v ∧ (x = "" ∨ x ∈ nms c.rs) ∧ 0 ≤ N ∧
  (chg c.rs (lvs c.rs) v.S x < N → ∀ H', Ex H H' → E (cNP K) none H') ∧
  (N ≤ chg c.rs (lvs c.rs) v.S x → ∀ d H', H d = none → Keep (mutA a) H H' → MSt K S0 H' a c { v with S := subS v.S (lostK c.rs (kpF c) v.S x N) (lostT c.rs (kpF c) v.S x N) } →
    H' d = some (.dK (fm (lostK c.rs (kpF c) v.S x N) (lostT c.rs (kpF c) v.S x N))) → Q (.ref d) H')
theorem ok_take_back (T : Tx K mg) : Has P w K mg base (CX P w) 22 d_Machine_take_back P_Machine_take_back (spTakeBack K) := by
  have H_check_place : Has P w K mg base CX0 2 d_check_place P_check_place (spCkPlace K) := ok_check_place T
  have H_check_pages : Has P w K mg base CX0 2 d_check_pages P_check_pages spCkPages := ok_check_pages T
  have H_Machine_charged : Has P w K mg base CX0 11 d_Machine_charged P_Machine_charged (spMCharged K) := ok_charged T
  have H_all_below : Has P w K mg base CX0 10 d_all_below P_all_below (spAllBelow K 9) := ok_all_below T 9
  have H_Tree_leaves : Has P w K mg base CX0 1 d_Tree_leaves P_Tree_leaves (spTLeaves K) := ok_Tree_leaves T
  have H_Machine_free_below : Has P w K mg base CX0 21 d_Machine_free_below P_Machine_free_below (spFreeBelow K 9) := ok_free_below T 9
  have H_rounded_parts : Has P w K mg base CX0 1 d_rounded_parts P_rounded_parts (spRounded K) := ok_rounded_parts T
  refine has_of T _ at_d_Machine_take_back sc_Machine_take_back (fun fd F => b_Machine_take_back F) (fun vs H Q E h => ?_) (fun cdv A outer s H vs Q E hr h => ?_)
  · obtain ⟨S0, a, c, v, x, N, rfl, _⟩ := h
    rfl
  · obtain ⟨S0, a, c, v, x, N, rfl, M, hx, h0, k1, k2⟩ := h
    have hu := hu_of hr
    have hw := M.ok.wf
    have ks := ksok M.ok M.vok
    have nd := sc_Machine_take_back.nd
    refine ⟨_, (pss_cons (ps_expr (pe_cl H_check_place hr (by first | decide | omega) T.g_check_place pass0 (pa_cons (peF K rfl (pv 0) rfl) (pa_cons (pv 1) pa_nil))))
        (pss_cons (ps_expr (pe_cl H_check_pages hr (by first | decide | omega) T.g_check_pages pass0 (pa_cons (pv 2) pa_nil)))
        (pss_cons (ps_if (pt_cmpR op_gt (pv 2) (pe_ml H_Machine_charged hr (by first | decide | omega) T.c_Machine T.m_Machine_charged pass0 (pv 0) (pa_cons (pv 1) pa_nil)) (nomark _)) (pss_one (ps_raise rfl (takes_of rfl rfl rfl rfl) (pmk_own PySem.F.excBase_ValueError T.e_NoPages.1 T.g_NoPages T.e_NoPages.2.1 (raises_own T.e_NoPages.2.2.1 T.e_NoPages.2.2.2) rfl))) pss_nil)
        (pss_cons (ps_set (i := 3) nd rfl (Or.inr rfl) (pe_cl H_all_below hr (by first | decide | omega) T.g_all_below pass0 (pa_cons (peF K rfl (pv 0) rfl) (pa_cons (pv 1) pa_nil))))
        (pss_cons (ps_setLc (i := 4) (own := [("leaf", 12)]) (g := gName 12) rfl nd rfl rfl (sw_true rfl rfl rfl (by decide +kernel)) (pi_list (pe_ml0 H_Tree_leaves hr (by first | decide | omega) T.c_Tree T.m_Tree_leaves pass0 (peF K rfl (pv 0) rfl))) (blkOk_by (N := N_Machine_take_back) (sc := defScope s_Machine_take_back) (by decide +kernel)) (fun _ _ _ _ _ => pg_name (i := 12) nd rfl (Or.inl rfl)) (fun _ _ _ _ _ => (pts_one (pt_cmpR (opIn K rfl) (pv 12) (pv 3) (by rfl)))) (fun _ _ _ _ _ => (pv 12)))
        (pss_cons (ps_set (i := 5) nd rfl (Or.inr rfl) pe_dnewK)
        (pss_cons (ps_expr (pe_ml H_Machine_free_below hr (by first | decide | omega) T.c_Machine T.m_Machine_free_below pass0 (pv 0) (pa_cons (pv 1) (pa_cons pe_non (pa_cons (pv 5) pa_nil)))))
        (pss_cons (ps_setLc (i := 6) (own := [("leaf", 12)]) (g := gName 12) (tt := tYes) rfl nd rfl rfl (sw_true rfl rfl rfl (by decide +kernel)) (pi_list (pv 4)) (blkOk_by (N := N_Machine_take_back) (sc := defScope s_Machine_take_back) (by decide +kernel)) (fun _ _ _ _ _ => pg_name (i := 12) nd rfl (Or.inl rfl)) (fun _ _ _ _ _ => pts_nil) (fun _ _ _ _ _ => (pe_tup (pa_cons (pv 12) (pa_cons (pe_dget2 hu (pv 5) (pv 12) pe_int ⟨rfl, rfl, rfl, rfl⟩) pa_nil)))))
        (pss_cons (ps_set (i := 7) nd rfl (Or.inl rfl) (pe_callB (call_min2 rfl) (by rfl) T.z_min (by decide +kernel) (pa_cons (pv 2) (pa_cons (pe_callB (cr_sum rfl) (by rfl) T.z_sum (by decide +kernel) (pa_cons (pe_lc (own := [("leaf", 12), ("size", 13)]) (tt := tYes) rfl nd (pi_list (pv 6)) (blkOk_by (N := N_Machine_take_back) (sc := defScope s_Machine_take_back) (by decide +kernel)) (fun _ _ _ _ _ => pgT (n := 2) K rfl rfl (pgs_cons (pg_name (i := 12) nd rfl (Or.inl rfl)) (pgs_cons (pg_name (i := 13) nd rfl (Or.inl rfl)) pgs_nil))) (fun _ _ _ _ _ => pts_nil) (fun _ _ _ _ _ => (pv 13))) pa_nil)) pa_nil))))
        (C8.pss_cut (ps_set (i := 8) nd rfl (Or.inr rfl) (pe_ifExp (pt_cmpR op_gt (pv 7) pe_int (nomark _)) (pe_cl H_rounded_parts hr (by first | decide | omega) T.g_rounded_parts pass0 (pa_cons (pv 6) (pa_cons (pv 7) pa_nil))) (pe_dc (own := [("leaf", 12)]) (g := gName 12) (tt := tYes) rfl nd (pi_list (pv 4)) (blkOk_by (N := N_Machine_take_back) (sc := defScope s_Machine_take_back) (by decide +kernel)) (fun _ _ _ _ _ => pg_name (i := 12) nd rfl (Or.inl rfl)) (fun _ _ _ _ _ => pts_nil) (fun _ _ _ _ _ => (pv 12)) (fun _ _ _ _ _ => pe_int))))
        (pss_cons (ps_setLc (i := 9) (own := [("leaf", 12)]) (g := gName 12) (tt := tYes) rfl nd rfl rfl (sw_true rfl rfl rfl (by decide +kernel)) (pi_list (pv 4)) (blkOk_by (N := N_Machine_take_back) (sc := defScope s_Machine_take_back) (by decide +kernel)) (fun _ _ _ _ _ => pg_name (i := 12) nd rfl (Or.inl rfl)) (fun _ _ _ _ _ => pts_nil) (fun _ _ _ _ _ => (pe_tup (pa_cons (pv 12) (pa_cons (pe_op op_sub (pe_dget hu (peF K rfl (pv 0) rfl) (pv 12) (fun _ _ => rfl)) (pe_dget hu (pv 8) (pv 12) (fun _ _ => rfl))) pa_nil)))))
        (C8.pss_cut (ps_set (i := 10) nd rfl (Or.inr rfl) (pe_ifExp (pt_cmpR op_gt (pv 2) (pv 7) (nomark _)) (pe_cl H_rounded_parts hr (by first | decide | omega) T.g_rounded_parts pass0 (pa_cons (pv 9) (pa_cons (pe_op op_sub (pv 2) (pv 7)) pa_nil))) (pe_dc (own := [("leaf", 12)]) (g := gName 12) (tt := tYes) rfl nd (pi_list (pv 4)) (blkOk_by (N := N_Machine_take_back) (sc := defScope s_Machine_take_back) (by decide +kernel)) (fun _ _ _ _ _ => pg_name (i := 12) nd rfl (Or.inl rfl)) (fun _ _ _ _ _ => pts_nil) (fun _ _ _ _ _ => (pv 12)) (fun _ _ _ _ _ => pe_int))))
        (pss_cons (ps_setDc (j := 11) (own := [("leaf", 12)]) (g := gName 12) rfl nd rfl rfl (sw_trueD rfl rfl rfl (by decide +kernel)) (pi_list (pv 4)) (blkOk_by (N := N_Machine_take_back) (sc := defScope s_Machine_take_back) (by decide +kernel)) (fun _ _ _ _ _ => pg_name (i := 12) nd rfl (Or.inl rfl)) (fun _ _ _ _ _ => (pts_one (pt_cmpR op_gt (pe_op op_add (pe_dget hu (pv 8) (pv 12) (fun _ _ => rfl)) (pe_dget hu (pv 10) (pv 12) (fun _ _ => rfl))) pe_int (nomark _)))) (fun _ _ _ _ _ => (pv 12)) (fun _ _ _ _ _ => (pe_op op_add (pe_dget hu (pv 8) (pv 12) (fun _ _ => rfl)) (pe_dget hu (pv 10) (pv 12) (fun _ _ => rfl)))))
        (pss_cons (ps_lock (ps_for (passes_of rfl) rfl (pi_keys (pv 11)) (pg_name (i := 12) nd rfl (Or.inl rfl))
          (pss_one (ps_daug hu (peF K rfl (pv 0) rfl) (pv 12) (pe_dget hu (pv 11) (pv 12) (fun _ _ => rfl)) in_sub (fun _ _ _ => rfl)))))
        (pss_one (ps_ret (pv 11))))))))))))))))), ?_⟩
    refine ⟨_, rfl, a.me, _, _, _, _, rfl, M.me, T.c_Machine, T.n_Machine_tree, rfl, _, rfl, a.tr, x, c.rs, rfl, M.tr, hx, ?_⟩
    refine ⟨_, rfl, N, rfl, h0, ?_⟩
    refine ⟨_, rfl, _, rfl, a.me, _, _, rfl, M.me, rfl, _, rfl, S0, a, c, v, x, rfl, M, hx, fun H1 e1 => ⟨_, _, rfl, rfl, _, rfl, ?_⟩⟩
    by_cases hgt : chg c.rs (lvs c.rs) v.S x < N
    · exact ifT (decide_eq_true hgt) (k1 hgt H1 e1)
    refine ifF (decide_eq_false hgt) ?_
    have h1N : N ≤ chg c.rs (lvs c.rs) v.S x := by omega
    have k2 := k2 h1N
    have M1 := M.to e1
    -- the names, the leaves
    refine ⟨_, rfl, a.me, _, _, _, _, rfl, M1.me, T.c_Machine, T.n_Machine_tree, rfl, _, rfl, a.tr, x, c.rs, rfl, M1.tr, hw, hx, by omega, fun p H2 ys hp e2 h2 hab => ?_⟩
    have M2 := M1.to e2
    have hTr2 := M2.tr
    obtain ⟨dx, ln, bn, bl, bnk, blk, t1, _⟩ := M2.tr
    refine ⟨_, rfl, a.me, _, _, _, _, rfl, M2.me, T.c_Machine, T.n_Machine_tree, rfl, a.tr, dx, _, rfl, t1, rfl, a.tr, c.rs, rfl, hTr2, hw, fun q H3 hq e3 h3 => ?_⟩
    have hlz : (lvs c.rs).length ≤ 8 := Nat.le_trans (lvs_len c.rs) hw.few
    refine ⟨q, rfl, ⟨_, K74.SqL.of' h3⟩, fun D hD => ?_⟩
    refine lc_b (lvs c.rs) V.str (fun l => if decide (l ∈ belowR x (RR c.rs)) = true then some (V.str l) else none) hD (K74.SqL.of' h3) (by omega) (fun i l H' hl e Q q => ?_) (fun H4 e4 h4 => ?_)
    · refine ⟨rfl, _, rfl, _, rfl, p, _, rfl, .inl (K74.SqL.of' (e _ _ (e3 _ _ h2))), rfl, flat_strs _, ?_⟩
      rw [inV_str]
      refine ⟨_, rfl, ?_⟩
      have hb := hab.below hw l
      by_cases cc : l ∈ belowR x (RR c.rs)
      · rw [if_pos (decide_eq_true cc)] at q
        exact ifT (decide_eq_true (hb.mpr cc)) ⟨_, rfl, q _ (Ex.refl _)⟩
      · rw [if_neg (by rw [decide_eq_false cc]; decide)] at q
        exact ifF (decide_eq_false fun z => cc (hb.mp z)) (q _ (Ex.refl _))
    rw [filterMap_if] at h4
    have h4' : H4 D = some (.lst ((LB c.rs x).map V.str)) := h4
    have hLz : (LB c.rs x).length ≤ 8 := LB_len hw
    have hLn := LB_nodup (name := x) hw
    have M4 := (M2.to e3).to e4
    have e04 := ((e1.trans e2).trans e3).trans e4
    -- what is free
    intro f hf
    obtain ⟨f0, fn⟩ := M4.notin hf
    have e5 : Ex H4 (upd H4 f (.dK [])) := Ex.new hf
    have M5 := M4.to e5
    refine ⟨_, rfl, a.me, _, _, rfl, M5.me, rfl, _, rfl, _, rfl, S0, a, c, v, x, .non, f, none, none, [], fun _ => 0, rfl, M5, hx, by omega, rfl, trivial, upd_same, f0, fn, List.nodup_nil, (fun y hy => by cases hy), fun H6 fs F k6 h6 n1 n2 n3 => ?_⟩
    have M6 := M5.keepF k6 f0 fn
    have e46 : Ex H4 H6 := fun b o hb => k6 b o (e5 b o hb) fun z => by
      rw [List.mem_singleton.mp z, hf] at hb
      cases hb
    have e06 := e04.trans e46
    have h6D := e46 _ _ h4'
    have hval : ∀ l, l ∈ LB c.rs x → (lkO fs F l).getD 0 = freeF c.rs (kpF c) v.S x l := fun l hl => by
      rw [n3 l]
      by_cases e : l = x
      · rw [if_neg (fun z => z.2.1 e)]
        unfold freeF
        rw [if_pos e]
        rfl
      · have hb := (LB_in hw hl).resolve_left e
        rw [if_pos ⟨LB_lvs hl, e, hb⟩]
        exact free_val hw (LB_lvs hl) e hb
    refine ⟨_, rfl, D, rfl, ⟨_, K74.SqL.of' h6D⟩, fun D2 hD2 => ?_⟩
    refine lc_rep (LB c.rs x) V.str (PairR K) (fun _ _ _ _ e h => h.keep e) (fun l => some (l, freeF c.rs (kpF c) v.S x l)) hD2 (K74.SqL.of' h6D) (by omega) (fun i l H' hl e Q q => ?_) (fun H7 zs e7 h7 r7 => ?_)
    · have hlm := List.mem_of_getElem? hl
      refine ⟨rfl, _, rfl, _, rfl, f, rfl, .inl ⟨_, .inl (e _ _ h6)⟩, _, rfl, _, get_fmO l (.inl (e _ _ h6)), (by show 2 ≤ sizeLine; decide), fun t ht => ?_⟩
      rw [getD_lk, hval l hlm]
      exact q _ _ (Ex.new ht) ⟨_, rfl, t, rfl, SqT.of upd_same⟩
    rw [filterMap_some] at r7
    have hP7 : PairsAt K H7 D2 ((LB c.rs x).map fun l => (l, freeF c.rs (kpF c) v.S x l)) := ⟨zs, K74.SqL.of' h7, r7⟩
    have hpz : ((LB c.rs x).map fun l => (l, freeF c.rs (kpF c) v.S x l)).length ≤ 8 := by rw [List.length_map]; exact hLz
    have hfst : ((LB c.rs x).map fun l => (l, freeF c.rs (kpF c) v.S x l)).map (·.1) = LB c.rs x := by rw [List.map_map]; exact List.map_id' _
    have hsnd : ((LB c.rs x).map fun l => (l, freeF c.rs (kpF c) v.S x l)).map (·.2) = frL c.rs (kpF c) v.S x := by rw [List.map_map]; rfl
    -- the first share
    refine ⟨_, rfl, _, rfl, D2, rfl, hP7.sq, fun D3 hD3 => ?_⟩
    refine lc_pairs hP7 hpz (fun p => some (V.int p.2)) hD3 (fun i t p H' hi e hT Q q => ?_) (fun H8 e8 h8 => ?_)
    · exact ⟨t, _, rfl, hT, rfl, _, _, rfl, _, _, rfl, rfl, rfl, _, rfl, q _ (Ex.refl _)⟩
    rw [filterMap_some] at h8
    refine ⟨D3, frL c.rs (kpF c) v.S x, rfl, K74.SqL.of' (by rw [h8, List.map_map]; unfold frL; rw [List.map_map]; rfl), _, _, rfl, ?_⟩
    have hfirst : (if (frL c.rs (kpF c) v.S x).sum < N then (frL c.rs (kpF c) v.S x).sum else N) = fstN c.rs (kpF c) v.S x N := rfl
    rw [hfirst]
    have fr := fst_range (name := x) hw ks h0
    have M8 := (M6.to e7).to e8
    have e08 := (e06.trans e7).trans e8
    have h8D := e8 _ _ (e7 _ _ h6D)
    have hP8 := hP7.ex e8
    have hS60 : ∀ l, v.S l < 10 ^ 61 := fun l => by
      have := M.vok.small l
      have : (10 : Int) ^ 60 < 10 ^ 61 := by decide
      omega
    have hn8 : ∀ y, y ∈ LB c.rs x → y ∈ nms c.rs := fun y hy => lvs_nms (LB_lvs hy)
    generalize hF1 : fstN c.rs (kpF c) v.S x N = F1 at *
    refine ⟨fun σ' H9 => ∃ (dl : Addr) (Lf : Str → Int), σ' = [some (.ref a.me), some (.str x), some (.int N), some (.ref p), some (.ref D), some (.ref f), some (.ref D2), some (.int F1), some (.ref dl), none, none, none, none, none] ∧ Ex H8 H9 ∧ H9 dl = some (.dK (fm (LB c.rs x) Lf)) ∧ (LB c.rs x).map Lf = lostA c.rs (kpF c) v.S x N, ?_, fun σ' H9 hM => ?_⟩
    · refine ⟨_, rfl, _, _, rfl, rfl, _, rfl, ?_⟩
      by_cases c1 : F1 > 0
      · refine ifT (decide_eq_true c1) ?_
        refine ⟨_, rfl, _, rfl, D2, _, F1, rfl, hP8, by rw [hfst]; exact hLn, hpz, fun p hp => ?_, c1, by rw [hsnd]; exact fr.2.1, fun d H9 R hd e9 h9 hR => ?_⟩
        · obtain ⟨l, hl, rfl⟩ := List.mem_map.mp hp
          have := freeF_range (name := x) hw ks (LB_lvs hl)
          have := hS60 l
          show 0 ≤ freeF c.rs (kpF c) v.S x l ∧ freeF c.rs (kpF c) v.S x l < 10 ^ 61
          omega
        · rw [hfst] at h9 hR
          rw [hsnd] at hR
          exact ⟨d, R, rfl, e9, h9, by rw [hR]; unfold lostA; rw [hF1]⟩
      · refine ifF (decide_eq_false c1) ?_
        have c0 : F1 = 0 := by omega
        refine ⟨_, rfl, D, rfl, ⟨_, K74.SqL.of' h8D⟩, fun D4 hD4 => ?_⟩
        refine dc_b (LB c.rs x) V.str (fun l => some (Sum.inr l, V.int 0)) hD4 (K74.SqL.of' h8D) (by omega) (fun i l H' hl e Q q => ⟨rfl, _, rfl, q _ (Ex.refl _)⟩) (fun H9 e9 h9 => ?_)
        rw [filterMap_some] at h9
        refine ⟨D4, fun _ => 0, rfl, e9, h9.trans (congrArg (fun z => some (HO.dK z)) (fm_mergeNil (S := fun _ => 0) hLn)), ?_⟩
        unfold lostA frL
        rw [hF1, c0, rnd_zero, List.map_map]
        rfl
    obtain ⟨dl, Lf, rfl, e9, g9, hA⟩ := hM
    have M9 := M8.to e9
    have h9D := e9 _ _ h8D
    have e09 := e08.trans e9
    have hLfr : ∀ l, l ∈ LB c.rs x → 0 ≤ Lf l ∧ Lf l ≤ v.S l := fun l hl => by
      obtain ⟨i, hi, e⟩ := List.mem_iff_getElem.mp hl
      have hl2 : (LB c.rs x)[i]? = some l := by rw [List.getElem?_eq_getElem hi, e]
      obtain ⟨r, hr, r0, r1⟩ := A_at hw ks h0 hl2
      rw [at_map hA hl2] at hr
      cases hr
      exact ⟨r0, r1⟩
    -- what is left
    refine ⟨_, rfl, D, rfl, ⟨_, K74.SqL.of' h9D⟩, fun D5 hD5 => ?_⟩
    refine lc_rep (LB c.rs x) V.str (PairR K) (fun _ _ _ _ e h => h.keep e) (fun l => some (l, v.S l - Lf l)) hD5 (K74.SqL.of' h9D) (by omega) (fun i l H' hl e Q q => ?_) (fun H10 zs2 e10 h10 r10 => ?_)
    · have hlm := List.mem_of_getElem? hl
      have M' := M9.to e
      refine ⟨rfl, _, rfl, _, rfl, a.me, _, _, _, _, rfl, M'.me, T.c_Machine, T.n_Machine_sizes, rfl, _, rfl, a.sz, _, rfl, get_fm (.inl M'.sz) (hn8 l hlm), _, rfl, _, rfl, dl, _, rfl, get_fm (.inl (e _ _ g9)) hlm, _, _, rfl, rfl, (by show 2 ≤ sizeLine; decide), fun t ht => ?_⟩
      exact q _ _ (Ex.new ht) ⟨_, rfl, t, rfl, SqT.of upd_same⟩
    rw [filterMap_some] at r10
    have hP10 : PairsAt K H10 D5 ((LB c.rs x).map fun l => (l, v.S l - Lf l)) := ⟨zs2, K74.SqL.of' h10, r10⟩
    have hpz2 : ((LB c.rs x).map fun l => (l, v.S l - Lf l)).length ≤ 8 := by rw [List.length_map]; exact hLz
    have hfst2 : ((LB c.rs x).map fun l => (l, v.S l - Lf l)).map (·.1) = LB c.rs x := by rw [List.map_map]; exact List.map_id' _
    have hsnd2 : ((LB c.rs x).map fun l => (l, v.S l - Lf l)).map (·.2) = restL c.rs (kpF c) v.S x N := by
      unfold restL
      rw [← hA, zip_maps, List.map_map]
      rfl
    have M10 := M9.to e10
    have h10D := e10 _ _ h9D
    have g10 := e10 _ _ g9
    have e010 := e09.trans e10
    have mr := more_range hw ks h0 h1N
    rw [hF1] at mr
    -- the second share
    refine ⟨fun σ' H11 => ∃ (dm : Addr) (Mf : Str → Int), σ' = [some (.ref a.me), some (.str x), some (.int N), some (.ref p), some (.ref D), some (.ref f), some (.ref D2), some (.int F1), some (.ref dl), some (.ref D5), some (.ref dm), none, none, none] ∧ Ex H10 H11 ∧ H11 dm = some (.dK (fm (LB c.rs x) Mf)) ∧ (LB c.rs x).map Mf = lostB c.rs (kpF c) v.S x N, ?_, fun σ' H11 hM => ?_⟩
    · refine ⟨_, rfl, _, rfl, _, _, rfl, rfl, _, rfl, ?_⟩
      by_cases c1 : N > F1
      · refine ifT (decide_eq_true c1) ?_
        refine ⟨_, rfl, _, rfl, _, rfl, _, _, rfl, rfl, D5, _, N - F1, rfl, hP10, by rw [hfst2]; exact hLn, hpz2, fun p hp => ?_, by omega, by rw [hsnd2]; exact mr.2, fun d H11 R hd e11 h11 hR => ?_⟩
        · obtain ⟨l, hl, rfl⟩ := List.mem_map.mp hp
          have := hLfr l hl
          have := hS60 l
          show 0 ≤ v.S l - Lf l ∧ v.S l - Lf l < 10 ^ 61
          omega
        · rw [hfst2] at h11 hR
          rw [hsnd2] at hR
          exact ⟨d, R, rfl, e11, h11, by rw [hR]; unfold lostB; rw [hF1]⟩
      · refine ifF (decide_eq_false c1) ?_
        have c0 : N - F1 = 0 := by omega
        refine ⟨_, rfl, D, rfl, ⟨_, K74.SqL.of' h10D⟩, fun D6 hD6 => ?_⟩
        refine dc_b (LB c.rs x) V.str (fun l => some (Sum.inr l, V.int 0)) hD6 (K74.SqL.of' h10D) (by omega) (fun i l H' hl e Q q => ⟨rfl, _, rfl, q _ (Ex.refl _)⟩) (fun H11 e11 h11 => ?_)
        rw [filterMap_some] at h11
        refine ⟨D6, fun _ => 0, rfl, e11, h11.trans (congrArg (fun z => some (HO.dK z)) (fm_mergeNil (S := fun _ => 0) hLn)), ?_⟩
        unfold lostB
        rw [hF1, c0, rnd_zero, ← hsnd2, List.map_map, List.map_map]
        rfl
    obtain ⟨dm, Mf, rfl, e11, g11, hB⟩ := hM
    have M11 := M10.to e11
    have h11D := e11 _ _ h10D
    have gl11 := e11 _ _ g10
    have hT : ∀ l, l ∈ LB c.rs x → lostT c.rs (kpF c) v.S x N l = Lf l + Mf l := fun l hl => by
      obtain ⟨i, hi, e⟩ := List.mem_iff_getElem.mp hl
      have hl2 : (LB c.rs x)[i]? = some l := by rw [List.getElem?_eq_getElem hi, e]
      exact lostT_at hw hl2 (at_map hA hl2) (at_map hB hl2)
    generalize hTg : lostT c.rs (kpF c) v.S x N = Tf at *
    -- what is lost
    refine ⟨_, rfl, D, rfl, ⟨_, K74.SqL.of' h11D⟩, fun D7 hD7 => ?_⟩
    refine dc_b (LB c.rs x) V.str (fun l => if decide (0 < Tf l) = true then some (Sum.inr l, V.int (Tf l)) else none) hD7 (K74.SqL.of' h11D) (by omega) (fun i l H' hl e Q q => ?_) (fun H12 e12 h12 => ?_)
    · have hlm := List.mem_of_getElem? hl
      refine ⟨rfl, _, rfl, _, rfl, dl, _, rfl, get_fm (.inl (e _ _ gl11)) hlm, _, rfl, _, rfl, dm, _, rfl, get_fm (.inl (e _ _ g11)) hlm, _, _, rfl, rfl, _, _, rfl, rfl, _, rfl, ?_⟩
      by_cases cc : 0 < Tf l
      · rw [if_pos (decide_eq_true cc)] at q
        refine ifT (decide_eq_true (by rw [← hT l hlm]; exact cc)) ⟨_, rfl, _, rfl, _, rfl, dl, _, rfl, get_fm (.inl (e _ _ gl11)) hlm, _, rfl, _, rfl, dm, _, rfl, get_fm (.inl (e _ _ g11)) hlm, _, _, rfl, rfl, ?_⟩
        have := q _ (Ex.refl _)
        rw [hT l hlm] at this
        exact this
      · rw [if_neg (by rw [decide_eq_false cc]; decide)] at q
        exact ifF (decide_eq_false (by rw [← hT l hlm]; exact cc)) (q _ (Ex.refl _))
    rw [filterMap_if (fun l => decide (0 < Tf l)) (fun l => ((Sum.inr l : Key), V.int (Tf l)))] at h12
    have hKn : (lostK c.rs (kpF c) v.S x N).Nodup := hLn.filter _
    have eK : (LB c.rs x).filter (fun l => decide (0 < Tf l)) = lostK c.rs (kpF c) v.S x N := by
      unfold lostK
      rw [hTg]
    rw [eK] at h12
    have h12' : H12 D7 = some (.dK (fm (lostK c.rs (kpF c) v.S x N) Tf)) := h12.trans (congrArg (fun z => some (HO.dK z)) (fm_mergeNil hKn))
    have hKsub : ∀ y, y ∈ lostK c.rs (kpF c) v.S x N → y ∈ nms c.rs := fun y hy => hn8 y (lostK_sub hy)
    have okS : MvOk c { v with S := subS v.S (lostK c.rs (kpF c) v.S x N) Tf } := hTg ▸ M.vok.sub M.ok ks h0 h1N
    generalize hKg : lostK c.rs (kpF c) v.S x N = Ks at *
    have M12 := M11.to e12
    have e012 := (e010.trans e11).trans e12
    obtain ⟨d0, dn⟩ := M11.notin hD7
    have nDs : D7 ≠ a.sz := fun e => dn (by rw [e]; simp)
    have nDm : D7 ≠ a.me := fun e => dn (by rw [e]; simp)
    have hKz : Ks.length ≤ 8 := by
      have := nodup_le hKn hKsub
      rw [List.length_map] at this
      have := hw.few
      omega
    refine lock_names h12' (fun i σ H' => (∃ z, σ = [some (.ref a.me), some (.str x), some (.int N), some (.ref p), some (.ref D), some (.ref f), some (.ref D2), some (.int F1), some (.ref dl), some (.ref D5), some (.ref dm), some (.ref D7), z, none]) ∧ (∃ od, H' D7 = some (.frz od (.dK (fm Ks Tf)))) ∧ Keep [a.sz, D7] H12 H' ∧ H' a.sz = some (.dK (fm (nms c.rs) (subS v.S (Ks.take i) Tf))))
      (fun od => ⟨⟨_, rfl⟩, ⟨od, upd_same⟩, (Keep.upd _).mono fun x h => by rw [List.mem_singleton.mp h]; simp, ?_⟩) (fun i σ H' pv => pv.2.1) (fun Hl Q q => ⟨_, rfl, q⟩) (fun i n od σ H' hi hfz pv => ?_) (fun σ H' pv => ?_)
    · rw [upd_ne (Ne.symm nDs), M12.sz]
      refine congrArg (fun z => some (HO.dK z)) (fm_congr fun n _ => ?_)
      unfold subS
      rw [List.take_zero, if_neg (by simp)]
    · obtain ⟨⟨z, rfl⟩, _, kp, hsz⟩ := pv
      have hnm := List.mem_of_getElem? hi
      have hme : H' a.me = some (.ins (He.ga K "Machine") a.dx (mF a v.many)) := kp _ _ M12.me (by simp [M12.nms, Ne.symm nDm])
      refine ⟨_, rfl, a.me, _, _, _, _, rfl, hme, T.c_Machine, T.n_Machine_sizes, rfl, _, rfl, a.sz, _, rfl, get_fm (.inl hsz) (hKsub n hnm), _, rfl, _, rfl, D7, _, rfl, get_fm (.inr ⟨od, hfz⟩) hnm, _, _, rfl, rfl, _, DPut.k (k := Sum.inr n) hsz (by rw [fm_len, sizeLine_eq, List.length_map]; have := hw.few; omega), ?_⟩
      have et : Ks.take (i + 1) = Ks.take i ++ [n] := by rw [List.take_succ, hi]; rfl
      have hnt : n ∉ Ks.take i := fun hm => by
        have nd2 := (List.take_sublist (i + 1) Ks).nodup hKn
        rw [et, List.nodup_append] at nd2
        exact nd2.2.2 n hm n (List.mem_singleton.mpr rfl) rfl
      rw [fm_put (hKsub n hnm), subS_snoc v.S (Ks.take i) Tf hnt, ← et]
      have hf2 : (upd H' a.sz (.dK (fm (nms c.rs) (subS v.S (Ks.take (i + 1)) Tf)))) D7 = some (.frz od (.dK (fm Ks Tf))) := by
        rw [upd_ne nDs]
        exact hfz
      exact ⟨hf2, ⟨_, rfl⟩, ⟨od, hf2⟩, kp.trans ((Keep.upd _).mono fun x h => by rw [List.mem_singleton.mp h]; simp), upd_same⟩
    · obtain ⟨⟨z, rfl⟩, _, kp, hsz⟩ := pv
      rw [take_len] at hsz
      have kp2 : Keep [a.sz, D7] H12 (upd H' D7 (.dK (fm Ks Tf))) := kp.trans ((Keep.upd _).mono fun x h => by rw [List.mem_singleton.mp h]; simp)
      have hsz2 : (upd H' D7 (.dK (fm Ks Tf))) a.sz = some (.dK (fm (nms c.rs) (subS v.S Ks Tf))) := by
        rw [upd_ne (Ne.symm nDs)]
        exact hsz
      refine ⟨_, rfl, k2 D7 _ ((e010.trans e11).free hD7) (fun b o hb hn => kp2 b o (e012 _ _ hb) fun z => ?_) (M12.upS kp2 d0 dn hsz2 okS) upd_same⟩
      rcases List.mem_cons.mp z with e | e
      · exact hn (by rw [e]; simp)
      · rw [List.mem_singleton.mp e, (e010.trans e11).free hD7] at hb
        cases hb
end
end K74
set_option Elab.async false
set_option linter.all false
set_option maxRecDepth 100000
set_option maxHeartbeats 4000000
/-! Taking pages: what goes at each name of the way. -/
namespace K74
open PySem PySem.Spec PyProof.Rows L2
def wayD (rs : List RowD) (x : Str) : List Str := ("" : Str) :: pathR (RR rs) x
abbrev GF : Type := List Str × (Str → Int)
def addOne (T : Str → Int) (g : GF) (n : Str) : GF := (if n ∈ g.1 then g.1 else g.1 ++ [n], setS g.2 n ((if n ∈ g.1 then g.2 n else 0) + T n))
def addF (g : GF) (ks : List Str) (T : Str → Int) : GF := ks.foldl (addOne T) g
theorem addOne_dict (g : GF) (T : Str → Int) (n : Str) : putK (fm g.1 g.2) (Sum.inr n) (.int ((if n ∈ g.1 then g.2 n else 0) + T n)) = fm (addOne T g n).1 (addOne T g n).2 := by
  unfold addOne
  by_cases h : n ∈ g.1
  · simp only [if_pos h]
    exact fm_put h
  · simp only [if_neg h]
    exact fm_putNew h
structure GOk (rs : List RowD) (g : GF) : Prop where
  nd : g.1.Nodup
  sub : ∀ n, n ∈ g.1 → n ∈ nms rs
theorem GOk.one {rs : List RowD} {g : GF} (h : GOk rs g) {T : Str → Int} {n : Str} (hn : n ∈ nms rs) : GOk rs (addOne T g n) := by
  unfold addOne
  by_cases c : n ∈ g.1
  · simp only [if_pos c]
    exact ⟨h.nd, h.sub⟩
  · simp only [if_neg c]
    refine ⟨List.nodup_append.mpr ⟨h.nd, by simp, fun a ha b hb e => c (by rw [List.mem_singleton.mp hb] at e; exact e ▸ ha)⟩, fun m hm => ?_⟩
    rcases List.mem_append.mp hm with z | z
    · exact h.sub m z
    · rw [List.mem_singleton.mp z]
      exact hn
theorem GOk.add {rs : List RowD} : ∀ {ks : List Str} {g : GF} (_ : GOk rs g) {T : Str → Int} (_ : ∀ n, n ∈ ks → n ∈ nms rs), GOk rs (addF g ks T)
  | [], _, h, _, _ => h
  | n :: ks, g, h, T, hk => GOk.add (ks := ks) (h.one (hk n List.mem_cons_self)) fun m hm => hk m (List.mem_cons_of_mem _ hm)
theorem GOk.len {rs : List RowD} {g : GF} (w : WfD rs) (h : GOk rs g) : g.1.length ≤ 8 := by
  have := nodup_le h.nd h.sub
  rw [List.length_map] at this
  have := w.few
  omega
theorem addF_snoc (g : GF) (ks : List Str) (T : Str → Int) (n : Str) : addF g (ks ++ [n]) T = addOne T (addF g ks T) n := by
  unfold addF
  rw [List.foldl_append]
  rfl
abbrev TSt : Type := (Str → Int) × GF
/-- kp: the kept pages, lim: the limits -/
def stepT (rs : List RowD) (kp : Str → Int) (lim : Str → Option Int) (N : Int) (st : TSt) (n : Str) : TSt := match lim n with
  | some l => if 0 < chg rs (lvs rs) st.1 n + N - l then (subS st.1 (lostK rs kp st.1 n (chg rs (lvs rs) st.1 n + N - l)) (lostT rs kp st.1 n (chg rs (lvs rs) st.1 n + N - l)), addF st.2 (lostK rs kp st.1 n (chg rs (lvs rs) st.1 n + N - l)) (lostT rs kp st.1 n (chg rs (lvs rs) st.1 n + N - l))) else st
  | none => st
def foldT (rs : List RowD) (kp : Str → Int) (lim : Str → Option Int) (N : Int) (S : Str → Int) (ns : List Str) : TSt := ns.foldl (stepT rs kp lim N) (S, ([], fun _ => 0))
theorem foldT_snoc {rs : List RowD} {kp : Str → Int} {lim : Str → Option Int} {N : Int} {S : Str → Int} {ns : List Str} {n : Str} : foldT rs kp lim N S (ns ++ [n]) = stepT rs kp lim N (foldT rs kp lim N S ns) n := by
  unfold foldT
  rw [List.foldl_append]
  rfl
theorem foldT_filter {rs : List RowD} {kp : Str → Int} {lim : Str → Option Int} {N : Int} {q : Str → Bool} (hq : ∀ n, q n = false → lim n = none) : ∀ (ns : List Str) (st : TSt), (ns.filter q).foldl (stepT rs kp lim N) st = ns.foldl (stepT rs kp lim N) st
  | [], _ => rfl
  | n :: ns, st => by
    cases h : q n with
    | true =>
      rw [List.filter_cons_of_pos h]
      exact foldT_filter hq ns _
    | false =>
      rw [List.filter_cons_of_neg (by rw [h]; decide), foldT_filter hq ns st, List.foldl_cons]
      have : stepT rs kp lim N st n = st := by
        unfold stepT
        rw [hq n h]
      rw [this]
theorem find_filter {α : Type} {p q : α → Bool} : ∀ xs : List α, (xs.filter p).find? q = xs.find? fun x => p x && q x
  | [] => rfl
  | x :: xs => by
    cases h : p x with
    | true =>
      rw [List.filter_cons_of_pos h, List.find?_cons, List.find?_cons, h, Bool.true_and]
      cases q x with
      | true => rfl
      | false => exact find_filter xs
    | false =>
      rw [List.filter_cons_of_neg (by rw [h]; decide), List.find?_cons, h, Bool.false_and]
      exact find_filter xs
/-- the state keeps its order -/
structure TOk (rs : List RowD) (S : Str → Int) (st : TSt) : Prop where
  pos : ∀ n, 0 ≤ st.1 n
  le : ∀ n, st.1 n ≤ S n
  zero : ∀ n, n ∉ lvs rs → st.1 n = 0
  g : GOk rs st.2
theorem TOk.ks {rs : List RowD} {kp S : Str → Int} (h : KSOk rs kp S) {st : TSt} (t : TOk rs S st) : KSOk rs kp st.1 := ⟨h.k0, t.pos, fun n => by have := t.le n; have := h.s1 n; omega⟩
theorem TOk.step {rs : List RowD} (w : WfD rs) {kp S : Str → Int} (h : KSOk rs kp S) {lim : Str → Option Int} {N : Int} {st : TSt} (t : TOk rs S st) (n : Str) (hlim : ∀ l, lim n = some l → N ≤ l) : TOk rs S (stepT rs kp lim N st n) := by
  unfold stepT
  cases hl : lim n with
  | none => exact t
  | some l =>
    dsimp only
    split
    · rename_i c
      have hN := hlim l hl
      have k := t.ks h
      have h1 : chg rs (lvs rs) st.1 n + N - l ≤ chg rs (lvs rs) st.1 n := by omega
      refine ⟨fun m => (subS_ok w k (by omega) h1 m).1, fun m => Int.le_trans (subS_ok w k (by omega) h1 m).2 (t.le m), fun m hm => ?_, t.g.add fun m hm => lvs_nms (LB_lvs (lostK_sub hm))⟩
      show subS st.1 _ _ m = 0
      unfold subS
      rw [if_neg (fun z => hm (LB_lvs (lostK_sub z)))]
      exact t.zero m hm
    · exact t
theorem TOk.fold {rs : List RowD} (w : WfD rs) {kp S : Str → Int} (h : KSOk rs kp S) {lim : Str → Option Int} {N : Int} (z : ∀ n, n ∉ lvs rs → S n = 0) (ns : List Str) (hlim : ∀ n, n ∈ ns → ∀ l, lim n = some l → N ≤ l) : TOk rs S (foldT rs kp lim N S ns) := by
  have go : ∀ (ns : List Str), (∀ n, n ∈ ns → ∀ l, lim n = some l → N ≤ l) → ∀ (st : TSt), TOk rs S st → TOk rs S (ns.foldl (stepT rs kp lim N) st) := fun ns => by
    induction ns with
    | nil => intro _ st t; exact t
    | cons n ns ih => intro hl st t; exact ih (fun m hm => hl m (List.mem_cons_of_mem _ hm)) _ (t.step w h n (hl n List.mem_cons_self))
  exact go ns hlim _ ⟨h.s0, fun n => Int.le_refl _, z, ⟨List.nodup_nil, fun n hn => by cases hn⟩⟩
end K74
set_option Elab.async false
set_option linter.all false
set_option maxRecDepth 100000
set_option maxHeartbeats 4000000
namespace K74
open PySem PySem.Spec PyProof.Rows L2
section
variable {P : Program} {w : World} {K : PySem.W.Frag} {mg : Str → Option Value} {base : Heap}
abbrev N_Machine_take : List Str := ["self", "task", "number", "leaf", "names", "name", "found", "excess", "lost", "one"]
abbrev P_Machine_take : List Str := ["self", "task", "number"]
theorem sc_Machine_take : FnScope N_Machine_take P_Machine_take (defScope s_Machine_take) := C8.fnScope_by (by decide +kernel)
theorem b_Machine_take {K : PySem.W.Frag} {fd : FuncData} (F : FunD K d_Machine_take.name d_Machine_take.qual d_Machine_take.params d_Machine_take.body d_Machine_take.scope (d_Machine_take.dvs K) (d_Machine_take.kws K) (He.fAd K d_Machine_take.at_) fd) : L2.Binds K fd P_Machine_take [] :=
  FunD.bindsN F fun _ _ _ _ _ _ us hl => match us, hl with | [_, _, _], _ => rfl
def limF (c : MC) (n : Str) : Option Int := if n ∈ c.pn then some (c.pS n) else none
def dueB (c : MC) (N : Int) (n : Str) : Bool := decide (n ∈ c.pn) && decide (c.pS n < N)
theorem wayU_rev (rs : List RowD) (x : Str) : (wayU rs x).reverse = wayD rs x := by
  unfold wayU wayD
  simp
theorem wayD_mem {rs : List RowD} {x n : Str} (h : n ∈ wayD rs x) : n = "" ∨ n ∈ nms rs := by
  rcases List.mem_cons.mp h with z | z
  · exact .inl z
  · exact .inr (RR_names.mp (path_sub x n z))
theorem wayD_len {rs : List RowD} (w : WfD rs) (x : Str) : (wayD rs x).length ≤ 9 := by
  have := w.path_le x
  unfold wayD
  rw [List.length_cons]
  omega
def takeR (c : MC) (v : MV) (N : Int) (x : Str) : TSt := foldT c.rs (kpF c) (limF c) N v.S (wayD c.rs x)
def takenS (c : MC) (v : MV) (N : Int) (x : Str) : Str → Int := setS (takeR c v N x).1 x ((takeR c v N x).1 x + N)
theorem MSt.keepL {S0 H H' : Hp} {a : MA} {c : MC} {v : MV} {L : List Addr} (h : MSt K S0 H a c v) (k : Keep L H H') (hL : ∀ b, b ∈ L → S0 b = none ∧ b ∉ mutA a) : MSt K S0 H' a c v :=
  ⟨fun b o hb => k b o (h.ex b o hb) (fun z => by rw [(hL b z).1] at hb; cases hb), h.tree, h.mt, h.mp, h.sf, h.nme, h.npl, h.nsz, h.ne, k _ _ h.me (fun z => (hL _ z).2 (by simp)), k _ _ h.pl (fun z => (hL _ z).2 (by simp)), k _ _ h.sz (fun z => (hL _ z).2 (by simp)), h.ok, h.vok⟩
def spTake (K : PySem.W.Frag) : Sp := fun vs H Q E => ∃ (S0 : Hp) (a : MA) (c : MC) (v : MV) (t N : Int), vs = [.ref a.me, .int t, .int N] ∧ MSt K S0 H a c v ∧ 0 ≤ t ∧ 0 ≤ N ∧ (∀ n, v.S n + N < 10 ^ 60) ∧ (lkp v.ps t = none → E (cNT K) none H) ∧
  (∀ x, lkp v.ps t = some x → (∀ n, (wayD c.rs x).find? (dueB c N) = some n → ∀ d H', H d = none → Ex H H' → H' d = some (.xd [(("name" : Str), .str n)]) → E (cNR K) (some d) H') ∧
    ((wayD c.rs x).find? (dueB c N) = none → ∀ d H', H d = none → Keep (mutA a) H H' → MSt K S0 H' a c { v with S := takenS c v N x } → H' d = some (.dK (fm (takeR c v N x).2.1 (takeR c v N x).2.2)) → Q (.ref d) H'))
theorem ok_take (T : Tx K mg) (Z : Zx P K mg base) : Has P w K mg base (CX P w) 23 d_Machine_take P_Machine_take (spTake K) := by
  have H_Machine_check_task : Has P w K mg base (CX P w) 2 d_Machine_check_task P_Machine_check_task (spCkTask K) := ok_check_task T
  have H_check_pages : Has P w K mg base CX0 2 d_check_pages P_check_pages spCkPages := ok_check_pages T
  have H_Machine_way_up : Has P w K mg base CX0 4 d_Machine_way_up P_Machine_way_up (spWayUp K) := ok_way_up T
  have H_Machine_charged : Has P w K mg base CX0 11 d_Machine_charged P_Machine_charged (spMCharged K) := ok_charged T
  have H_Machine_take_back : Has P w K mg base (CX P w) 22 d_Machine_take_back P_Machine_take_back (spTakeBack K) := ok_take_back T
  refine has_of T _ at_d_Machine_take sc_Machine_take (fun fd F => b_Machine_take F) (fun vs H Q E h => ?_) (fun cdv A outer s H vs Q E hr h => ?_)
  · obtain ⟨S0, a, c, v, t, N, rfl, _⟩ := h
    rfl
  · obtain ⟨S0, a, c, v, t, N, rfl, M, ht, h0, hsm, k0, k⟩ := h
    have hu := hu_of hr
    have hw := M.ok.wf
    have ks := ksok M.ok M.vok
    have nd := sc_Machine_take.nd
    refine ⟨_, (pss_cons (ps_expr (pe_ml H_Machine_check_task hr (by first | decide | omega) T.c_Machine T.m_Machine_check_task (passes_call (E := E) (takes_of rfl rfl rfl rfl) (fun _ _ _ _ h => h)) (pv 0) (pa_cons (pv 1) pa_nil)))
        (pss_cons (ps_expr (pe_cl H_check_pages hr (by first | decide | omega) T.g_check_pages pass0 (pa_cons (pv 2) pa_nil)))
        (pss_cons (ps_set (i := 3) nd rfl (Or.inl rfl) (pe_dget hu (peF K rfl (pv 0) rfl) (pv 1) (fun _ _ => rfl)))
        (pss_cons (ps_setLc (i := 4) (own := [("name", 5)]) (g := gName 5) rfl nd rfl rfl (sw_true rfl rfl rfl (by decide +kernel)) (pi_list (pe_revL (pe_ml H_Machine_way_up hr (by first | decide | omega) T.c_Machine T.m_Machine_way_up pass0 (pv 0) (pa_cons (pv 3) pa_nil)))) (blkOk_by (N := N_Machine_take) (sc := defScope s_Machine_take) (by decide +kernel)) (fun _ _ _ _ _ => pg_name (i := 5) nd rfl (Or.inl rfl)) (fun _ _ _ _ _ => (pts_one (pt_cmp (pc_din hu (pv 5) (peF K rfl (pv 0) rfl))))) (fun _ _ _ _ _ => (pv 5)))
        (pss_cons (ps_for (passes_of rfl) rfl (pi_list (pv 4)) (pg_name (i := 5) nd rfl (Or.inl rfl))
          (pss_one (ps_if (pt_cmpR op_lt (pe_dget hu (peF K rfl (pv 0) rfl) (pv 5) (fun _ _ => rfl)) (pv 2) (nomark _)) (pss_one (ps_raise rfl (takes_of rfl rfl rfl rfl) (pmk_room T Z hr (pa_cons pe_str (pa_cons (pv 5) pa_nil))))) pss_nil)))
        (pss_cons (ps_set (i := 6) nd rfl (Or.inl rfl) pe_dnewK)
        (pss_cons (ps_for (passes_of rfl) rfl (pi_list (pv 4)) (pg_name (i := 5) nd rfl (Or.inl rfl))
          (pss_cons (ps_set (i := 7) nd rfl (Or.inl rfl) (pe_op op_sub (pe_op op_add (pe_ml H_Machine_charged hr (by first | decide | omega) T.c_Machine T.m_Machine_charged pass0 (pv 0) (pa_cons (pv 5) pa_nil)) (pv 2)) (pe_dget hu (peF K rfl (pv 0) rfl) (pv 5) (fun _ _ => rfl))))
            (pss_one (ps_if (pt_cmpR op_gt (pv 7) pe_int (nomark _)) (pss_cons (ps_set (i := 8) nd rfl (Or.inl rfl) (pe_ml H_Machine_take_back hr (by first | decide | omega) T.c_Machine T.m_Machine_take_back (passes_call (E := E) (takes_of rfl rfl rfl rfl) (fun _ _ _ _ h => h)) (pv 0) (pa_cons (pv 5) (pa_cons (pv 7) pa_nil))))
                (pss_one (ps_lock (ps_for (passes_of rfl) rfl (pi_keys (pv 8)) (pg_name (i := 9) nd rfl (Or.inl rfl))
                  (pss_one (ps_dput hu (pv 6) (pv 9) (pe_op op_add (pe_dget2 hu (pv 6) (pv 9) pe_int ⟨rfl, rfl, rfl, rfl⟩) (pe_dget hu (pv 8) (pv 9) (fun _ _ => rfl))) rfl)))))) pss_nil))))
        (pss_cons (ps_daug hu (peF K rfl (pv 0) rfl) (pv 3) (pv 2) in_add (fun _ _ _ => rfl))
        (pss_one (ps_ret (pv 6))))))))))), ?_⟩
    refine ⟨_, rfl, a.me, _, _, rfl, M.me, rfl, _, rfl, S0, a, c, v, t, rfl, M, ht, fun h => k0 h, fun x hx => ?_⟩
    obtain ⟨k1, k2⟩ := k x hx
    have hxl := M.vok.ls _ (lkp_mem hx)
    have hxl : x ∈ lvs c.rs := hxl
    have hwz := wayD_len hw x
    refine ⟨_, rfl, N, rfl, h0, ?_⟩
    refine ⟨_, rfl, a.me, _, _, _, _, rfl, M.me, T.c_Machine, T.n_Machine_places, rfl, _, rfl, a.pl, .str x, rfl, .inl ⟨_, Sum.inl t, .inl M.pl, rfl, by rw [pk_val, hx]; rfl⟩, ?_⟩
    -- the names with a limit
    refine ⟨_, rfl, a.me, _, _, rfl, M.me, rfl, _, rfl, S0, a, c, v, x, rfl, M, lvs_nms hxl, fun p H1 hp e1 h1 => ?_⟩
    have M1 := M.to e1
    refine ⟨p, _, rfl, K74.SqL.of' h1, fun q hq => ?_⟩
    have er : (((pathR (RR c.rs) x).reverse ++ [("" : Str)]).map V.str).reverse = (wayD c.rs x).map V.str := by
      rw [← List.map_reverse]
      exact congrArg (fun z => z.map V.str) (wayU_rev c.rs x)
    rw [er]
    have e2 : Ex H1 (upd H1 q (.lst ((wayD c.rs x).map V.str))) := Ex.new hq
    have M2 := M1.to e2
    refine ⟨q, rfl, ⟨_, K74.SqL.of' upd_same⟩, fun D hD => ?_⟩
    refine lc_b (wayD c.rs x) V.str (fun n => if decide (n ∈ c.pn) = true then some (V.str n) else none) hD (K74.SqL.of' upd_same) (by omega) (fun i n H' hn e Q q => ?_) (fun H3 e3 h3 => ?_)
    · refine ⟨rfl, _, rfl, _, rfl, a.me, _, _, _, _, rfl, e _ _ M2.me, T.c_Machine, T.n_Machine_most_pages, rfl, a.mp, _, rfl, get_fmO n (.inl (e _ _ M2.Mp)), _, rfl, ?_⟩
      by_cases cc : n ∈ c.pn
      · rw [if_pos (decide_eq_true cc)] at q
        rw [if_pos cc]
        exact ifT rfl ⟨_, rfl, q _ (Ex.refl _)⟩
      · rw [if_neg (by simp [cc])] at q
        rw [if_neg cc]
        exact ifF rfl (q _ (Ex.refl _))
    rw [filterMap_if] at h3
    have M3 := M2.to e3
    have e03 := (e1.trans e2).trans e3
    generalize hNg : (wayD c.rs x).filter (fun n => decide (n ∈ c.pn)) = Ns at h3
    have hNm : ∀ n, n ∈ Ns → n ∈ c.pn ∧ (n = "" ∨ n ∈ nms c.rs) := fun n hn => by
      rw [← hNg] at hn
      obtain ⟨h4, h5⟩ := List.mem_filter.mp hn
      exact ⟨of_decide_eq_true h5, wayD_mem h4⟩
    -- is one too small
    refine ⟨_, rfl, D, rfl, ⟨_, K74.SqL.of' h3⟩, ?_⟩
    refine for_list (K := K) (a := D) (xs := Ns.map V.str) (fun i σ H' => (∃ z5, σ = [some (.ref a.me), some (.int t), some (.int N), some (.str x), some (.ref D), z5, none, none, none, none]) ∧ Ex H3 H' ∧ ∀ n, n ∈ Ns.take i → decide (c.pS n < N) = false)
      ⟨⟨_, rfl⟩, Ex.refl _, fun n hn => by cases hn⟩ (fun i σ H' _ pv => pv.2.1.l (K74.SqL.of' h3)) (fun i y σ H' hy pv => ?_) (fun σ H4 pv => ?_)
    · obtain ⟨⟨z5, rfl⟩, e4, hlo⟩ := pv
      rw [List.getElem?_map] at hy
      obtain ⟨n, hn, rfl⟩ := Option.map_eq_some_iff.mp hy
      obtain ⟨f1, f2⟩ := find_take hn hlo
      have hnm := hNm n (List.mem_of_getElem? hn)
      have M4 := M3.to e4
      refine ⟨_, rfl, a.me, _, _, _, _, rfl, M4.me, T.c_Machine, T.n_Machine_most_pages, rfl, _, rfl, a.mp, _, rfl, get_fm (.inl M4.Mp) hnm.1, _, rfl, _, _, rfl, rfl, _, rfl, ?_⟩
      by_cases cc : c.pS n < N
      · refine ifT (decide_eq_true cc) ⟨_, rfl, _, _, rfl, fun d hd => ?_⟩
        have hfind : (wayD c.rs x).find? (dueB c N) = some n := by
          have := f1 (decide_eq_true cc)
          rw [← hNg, find_filter] at this
          exact this
        have e5 := e03.trans e4
        exact k1 n hfind d _ (e5.free hd) (e5.trans (Ex.new hd)) upd_same
      · exact ifF (decide_eq_false cc) ⟨⟨_, rfl⟩, e4, f2 (decide_eq_false cc)⟩
    obtain ⟨⟨z5, rfl⟩, e4, hlo⟩ := pv
    rw [List.length_map, take_len] at hlo
    have hfind : (wayD c.rs x).find? (dueB c N) = none := by
      have : Ns.find? (fun n => decide (c.pS n < N)) = none := by
        rw [List.find?_eq_none]
        intro n hn
        rw [hlo n hn]
        decide
      rw [← hNg, find_filter] at this
      exact this
    have k2 := k2 hfind
    have M4 := M3.to e4
    have h4D := e4 _ _ h3
    have e04 := e03.trans e4
    have hlim : ∀ n, n ∈ Ns → ∀ l, limF c n = some l → N ≤ l := fun n hn l hl => by
      have h5 := of_decide_eq_false (hlo n hn)
      unfold limF at hl
      rw [if_pos (hNm n hn).1] at hl
      cases hl
      omega
    -- taking back
    intro fd hfd
    obtain ⟨f0, fn⟩ := M4.notin hfd
    have e5 : Ex H4 (upd H4 fd (.dK [])) := Ex.new hfd
    have M5 := M4.to e5
    have h5D := e5 _ _ h4D
    have nDf : D ≠ fd := fun e => by
      rw [e, hfd] at h4D
      cases h4D
    have stay : ∀ H', Keep (fd :: mutA a) (upd H4 fd (.dK [])) H' → SqL K H' D (Ns.map V.str) := fun H' kk => K74.SqL.of' (kk _ _ h5D (by
      have nd1 : D ≠ a.me := fun e => by rw [e] at h5D; rw [M5.me] at h5D; cases h5D
      have nd2 : D ≠ a.pl := fun e => by rw [e] at h5D; rw [M5.pl] at h5D; cases h5D
      have nd3 : D ≠ a.sz := fun e => by rw [e] at h5D; rw [M5.sz] at h5D; cases h5D
      simp [nDf, nd1, nd2, nd3]))
    have tok : ∀ i, TOk c.rs v.S (foldT c.rs (kpF c) (limF c) N v.S (Ns.take i)) := fun i => TOk.fold hw ks M.vok.zero _ fun n hn => hlim n (List.mem_of_mem_take hn)
    have vok : ∀ i, MvOk c { v with S := (foldT c.rs (kpF c) (limF c) N v.S (Ns.take i)).1 } := fun i => ⟨M.vok.nd, M.vok.ls, M.vok.lt, M.vok.ge, M.vok.few, (tok i).pos, (tok i).zero, fun n => by
      have h1 := (tok i).le n
      have h2 := M.vok.small n
      show (foldT c.rs (kpF c) (limF c) N v.S (Ns.take i)).1 n < _
      omega⟩
    refine ⟨_, rfl, D, rfl, ⟨_, K74.SqL.of' h5D⟩, ?_⟩
    refine for_list (K := K) (a := D) (xs := Ns.map V.str) (fun i σ H' => (∃ z5 z7 z8 z9, σ = [some (.ref a.me), some (.int t), some (.int N), some (.str x), some (.ref D), z5, some (.ref fd), z7, z8, z9]) ∧ Keep (fd :: mutA a) (upd H4 fd (.dK [])) H' ∧
        MSt K S0 H' a c { v with S := (foldT c.rs (kpF c) (limF c) N v.S (Ns.take i)).1 } ∧ H' fd = some (.dK (fm (foldT c.rs (kpF c) (limF c) N v.S (Ns.take i)).2.1 (foldT c.rs (kpF c) (limF c) N v.S (Ns.take i)).2.2)))
      ⟨⟨_, _, _, _, rfl⟩, fun _ _ h _ => h, M5, upd_same⟩ (fun i σ H' _ pv => stay H' pv.2.1) (fun i y σ H' hy pv => ?_) (fun σ H' pv => ?_)
    · obtain ⟨⟨z5, z7, z8, z9, rfl⟩, kp, M', hfd'⟩ := pv
      rw [List.getElem?_map] at hy
      obtain ⟨n, hn, rfl⟩ := Option.map_eq_some_iff.mp hy
      have hnm := List.mem_of_getElem? hn
      obtain ⟨hpn, hnn⟩ := hNm n hnm
      have et : Ns.take (i + 1) = Ns.take i ++ [n] := by rw [List.take_succ, hn]; rfl
      have tk1 := tok (i + 1)
      have vk1 := vok (i + 1)
      rw [et, foldT_snoc] at tk1 vk1 ⊢
      generalize hst : foldT c.rs (kpF c) (limF c) N v.S (Ns.take i) = st at *
      have tki := tok i
      rw [hst] at tki
      have hl := hlim n hnm (c.pS n) (by unfold limF; rw [if_pos hpn])
      refine ⟨_, rfl, a.me, _, _, rfl, M'.me, rfl, _, rfl, S0, a, c, _, n, rfl, M', hnn, fun H6 e6 => ?_⟩
      have M6 := M'.to e6
      refine ⟨_, rfl, _, _, rfl, rfl, _, rfl, a.me, _, _, _, _, rfl, M6.me, T.c_Machine, T.n_Machine_most_pages, rfl, _, rfl, a.mp, _, rfl, get_fm (.inl M6.Mp) hpn, _, _, rfl, rfl, ?_⟩
      have k6 := kp.exL e6
      have h6fd := e6 _ _ hfd'
      refine ⟨_, rfl, _, _, rfl, rfl, _, rfl, ?_⟩
      have estep : stepT c.rs (kpF c) (limF c) N st n = if 0 < chg c.rs (lvs c.rs) st.1 n + N - c.pS n then (subS st.1 (lostK c.rs (kpF c) st.1 n (chg c.rs (lvs c.rs) st.1 n + N - c.pS n)) (lostT c.rs (kpF c) st.1 n (chg c.rs (lvs c.rs) st.1 n + N - c.pS n)), addF st.2 (lostK c.rs (kpF c) st.1 n (chg c.rs (lvs c.rs) st.1 n + N - c.pS n)) (lostT c.rs (kpF c) st.1 n (chg c.rs (lvs c.rs) st.1 n + N - c.pS n))) else st := by
        unfold stepT limF
        rw [if_pos hpn]
      rw [estep] at tk1 vk1 ⊢
      by_cases cc : 0 < chg c.rs (lvs c.rs) st.1 n + N - c.pS n
      · rw [if_pos cc] at tk1 vk1 ⊢
        refine ifT (decide_eq_true cc) ?_
        obtain ⟨ex, hex⟩ : ∃ ex, chg c.rs (lvs c.rs) st.1 n + N - c.pS n = ex := ⟨_, rfl⟩
        rw [hex] at tk1 vk1 cc ⊢
        refine ⟨_, rfl, a.me, _, _, rfl, M6.me, rfl, _, rfl, _, rfl, S0, a, c, _, n, ex, (by subst hex; rfl), M6, hnn, Int.le_of_lt cc, (fun h => absurd (show chg c.rs (lvs c.rs) st.1 n < ex from h) (by omega)), fun _ d H7 hd k7 M7 h7 => ?_⟩
        have h7fd := k7 _ _ h6fd fn
        obtain ⟨d0, dn⟩ := M6.notin hd
        have ndf : d ≠ fd := fun e => by
          rw [e, h6fd] at hd
          cases hd
        generalize hKs : lostK c.rs (kpF c) st.1 n ex = Ks at *
        generalize hTf : lostT c.rs (kpF c) st.1 n ex = Tf at *
        have hKs' : ∀ m, m ∈ Ks → m ∈ nms c.rs := fun m hm => by
          rw [← hKs] at hm
          exact lvs_nms (LB_lvs (lostK_sub hm))
        refine lock_names h7 (fun j σ H' => (∃ z7 z9, σ = [some (.ref a.me), some (.int t), some (.int N), some (.str x), some (.ref D), some (.str n), some (.ref fd), z7, some (.ref d), z9]) ∧ (∃ od, H' d = some (.frz od (.dK (fm Ks Tf)))) ∧ Keep [fd, d] H7 H' ∧ H' fd = some (.dK (fm (addF st.2 (Ks.take j) Tf).1 (addF st.2 (Ks.take j) Tf).2)))
          (fun od => ⟨⟨_, _, rfl⟩, ⟨od, upd_same⟩, (Keep.upd _).mono fun x h => by rw [List.mem_singleton.mp h]; simp, by rw [upd_ne (Ne.symm ndf), List.take_zero]; exact h7fd⟩) (fun j σ H' pv => pv.2.1) (fun Hl Q q => ⟨_, rfl, q⟩) (fun j m od σ H8 hj hfz pv => ?_) (fun σ H8 pv => ?_)
        · obtain ⟨⟨z7, z9, rfl⟩, _, k8, h8⟩ := pv
          have hmm := List.mem_of_getElem? hj
          have et2 : Ks.take (j + 1) = Ks.take j ++ [m] := by rw [List.take_succ, hj]; rfl
          have gk : GOk c.rs (addF st.2 (Ks.take j) Tf) := tki.g.add fun m hm => hKs' m (List.mem_of_mem_take hm)
          refine ⟨_, rfl, fd, rfl, .inl ⟨_, .inl h8⟩, _, rfl, _, get_fmO m (.inl h8), _, rfl, _, rfl, d, _, rfl, get_fm (.inr ⟨od, hfz⟩) hmm, (if m ∈ (addF st.2 (Ks.take j) Tf).1 then (addF st.2 (Ks.take j) Tf).2 m else 0), Tf m, (by split <;> rfl), rfl, _, rfl, _, rfl, fd, _, rfl, DPut.k (k := Sum.inr m) h8 (by rw [fm_len, sizeLine_eq]; have := gk.len hw; omega), ?_⟩
          rw [addOne_dict, ← addF_snoc, ← et2]
          have hf2 : (upd H8 fd (.dK (fm (addF st.2 (Ks.take (j + 1)) Tf).1 (addF st.2 (Ks.take (j + 1)) Tf).2))) d = some (.frz od (.dK (fm Ks Tf))) := by
            rw [upd_ne ndf]
            exact hfz
          exact ⟨hf2, ⟨_, _, rfl⟩, ⟨od, hf2⟩, k8.trans ((Keep.upd _).mono fun x h => by rw [List.mem_singleton.mp h]; simp), upd_same⟩
        · obtain ⟨⟨z7, z9, rfl⟩, _, k8, h8⟩ := pv
          rw [take_len] at h8
          have k9 : Keep [fd, d] H7 (upd H8 d (.dK (fm Ks Tf))) := k8.trans ((Keep.upd _).mono fun x h => by rw [List.mem_singleton.mp h]; simp)
          refine ⟨⟨_, _, _, _, rfl⟩, fun b o hb hn => k9 b o (k7 b o (k6 b o hb hn) fun z => hn (List.mem_cons_of_mem _ z)) fun z => ?_, ?_, ?_⟩
          · rcases List.mem_cons.mp z with e | e
            · exact hn (by rw [e]; exact List.mem_cons_self)
            · have := k6 b o hb hn
              rw [List.mem_singleton.mp e, hd] at this
              cases this
          · exact M7.keepL k9 fun b hb => by
              rcases List.mem_cons.mp hb with e | e
              · rw [e]
                exact ⟨f0, fn⟩
              · rw [List.mem_singleton.mp e]
                exact ⟨d0, dn⟩
          · rw [upd_ne (Ne.symm ndf)]
            exact h8
      · rw [if_neg cc]
        exact ifF (decide_eq_false cc) ⟨⟨_, _, _, _, rfl⟩, k6, M6, h6fd⟩
    · obtain ⟨⟨z5, z7, z8, z9, rfl⟩, kp, M', hfd'⟩ := pv
      have tkN := tok (Ns.map V.str).length
      rw [List.length_map, take_len] at M' hfd' tkN
      have eR : foldT c.rs (kpF c) (limF c) N v.S Ns = takeR c v N x := by
        rw [← hNg]
        exact foldT_filter (fun n hn => by unfold limF; rw [if_neg (of_decide_eq_false hn)]) _ _
      rw [eR] at M' hfd' tkN
      have hxn := lvs_nms hxl
      refine ⟨_, rfl, a.me, _, _, _, _, rfl, M'.me, T.c_Machine, T.n_Machine_sizes, rfl, _, rfl, a.sz, _, rfl, get_fm (.inl M'.sz) hxn, _, rfl, _, _, rfl, rfl, _, DPut.k (k := Sum.inr x) M'.sz (by rw [fm_len, sizeLine_eq, List.length_map]; have := hw.few; omega), ?_⟩
      rw [fm_put hxn]
      have okT : MvOk c { v with S := takenS c v N x } := M'.vok.size hxl (by have := tkN.pos x; show 0 ≤ (takeR c v N x).1 x + N; omega) (by have h1 := tkN.le x; have h2 := hsm x; show (takeR c v N x).1 x + N < _; omega)
      refine ⟨_, rfl, k2 fd _ (e04.free hfd) (fun b o hb hn => ?_) (M'.size okT) ?_⟩
      · rw [upd_ne (fun e => hn (by rw [e]; simp))]
        refine kp b o (e5 _ _ (e04 _ _ hb)) fun z => ?_
        rcases List.mem_cons.mp z with e | e
        · have := e04 _ _ hb
          rw [e, hfd] at this
          cases this
        · exact hn e
      · rw [upd_ne (fun e => fn (by rw [e]; simp))]
        exact hfd'
end
end K74
set_option Elab.async false
set_option linter.all false
set_option maxRecDepth 100000
set_option maxHeartbeats 4000000
namespace K74
open PySem PySem.Spec PyProof.Rows L2
section
variable {P : Program} {w : World} {K : PySem.W.Frag} {mg : Str → Option Value} {base : Heap}
abbrev N_Machine_init : List Str := ["self", "tree", "tasks", "pages", "safe", "row"]
abbrev P_Machine_init : List Str := ["self", "tree", "tasks", "pages", "safe"]
theorem sc_Machine_init : FnScope N_Machine_init P_Machine_init (defScope s_Machine_init) := C8.fnScope_by (by decide +kernel)
theorem b_Machine_init {K : PySem.W.Frag} {fd : FuncData} (F : FunD K d_Machine_init.name d_Machine_init.qual d_Machine_init.params d_Machine_init.body d_Machine_init.scope (d_Machine_init.dvs K) (d_Machine_init.kws K) (He.fAd K d_Machine_init.at_) fd) : L2.Binds K fd P_Machine_init [] :=
  FunD.bindsN F fun _ _ _ _ _ _ us hl => match us, hl with | [_, _, _, _, _], _ => rfl
/-- a machine just made -/
structure MNew (K : PySem.W.Frag) (H H' : Hp) (a : MA) (c : MC) : Prop where
  keep : Keep [a.me] H H'
  me : H' a.me = some (.ins (He.ga K "Machine") a.dx (mF a 0))
  mt : H' a.mt = some (.dK (fm c.tn c.tS))
  mp : H' a.mp = some (.dK (fm c.pn c.pS))
  sf : H' a.sf = some (.dK (fm c.sn c.sS))
  pl : H' a.pl = some (.dK [])
  sz : H' a.sz = some (.dK (fm (nms c.rs) fun _ => 0))
  new : ∀ b, b ∈ [a.mt, a.mp, a.sf, a.pl, a.sz] → H b = none ∧ b ≠ a.me
  nd : [a.mt, a.mp, a.sf, a.pl, a.sz].Nodup
def spMachineInit (K : PySem.W.Frag) : Sp := fun vs H Q _ => ∃ (x dx tr d1 d2 d3 : Addr) (c : MC), vs = [.ref x, .ref tr, .ref d1, .ref d2, .ref d3] ∧ H x = some (.ins (He.ga K "Machine") dx []) ∧ TreeAt K H tr c.rs ∧ McOk c ∧
  H d1 = some (.dK (fm c.tn c.tS)) ∧ H d2 = some (.dK (fm c.pn c.pS)) ∧ H d3 = some (.dK (fm c.sn c.sS)) ∧
  ∀ (a : MA) H', a.me = x → a.dx = dx → a.tr = tr → MNew K H H' a c → Q .non H'
/-- a new object and one more field -/
theorem put_step {H Hk : Hp} {x p : Addr} {o u : HO} (kk : Keep [x] H Hk) (hx : ∃ u, Hk x = some u) (hp : Hk p = none) : Keep [x] H (upd (upd Hk p o) x u) ∧ (upd (upd Hk p o) x u) p = some o ∧ p ≠ x ∧ (∀ q v, q ≠ x → Hk q = some v → (upd (upd Hk p o) x u) q = some v) := by
  obtain ⟨v, hv⟩ := hx
  have hn : p ≠ x := fun e => by
    rw [e, hv] at hp
    cases hp
  refine ⟨fun b o hb hnb => ?_, by rw [upd_ne hn, upd_same], hn, fun q w hq hw => ?_⟩
  · have h1 := kk b o hb hnb
    have h2 : b ≠ x := by simpa using hnb
    have h3 : b ≠ p := fun e => by
      rw [e, hp] at h1
      cases h1
    rw [upd_ne h2, upd_ne h3]
    exact h1
  · have h3 : q ≠ p := fun e => by
      rw [e, hp] at hw
      cases hw
    rw [upd_ne hq, upd_ne h3]
    exact hw
theorem TreeAt.but {H H' : Hp} {x C dx : Addr} {fs : List (Str × V)} {tr : Addr} {rs : List RowD} (k : Keep [x] H H') (hx : H x = some (.ins C dx fs)) (hn : tr ≠ x) (h : TreeAt K H tr rs) : TreeAt K H' tr rs := by
  obtain ⟨dx', ln, bn, bl, bnk, blk, h1, h2, h3, h4, h5, h6, h7⟩ := h
  have rdk : ∀ d kvs, Rd H d (.dK kvs) → Rd H' d (.dK kvs) := fun d kvs h => by
    rcases h with h | ⟨o, h⟩
    · exact .inl (k _ _ h fun z => by rw [List.mem_singleton.mp z, hx] at h; cases h)
    · exact .inr ⟨o, k _ _ h fun z => by rw [List.mem_singleton.mp z, hx] at h; cases h⟩
  exact ⟨dx', ln, bn, bl, bnk, blk, k _ _ h1 (by simpa using hn), but_rows k hx h2, rdk _ _ h3, fun r hr => (h4 r hr).imp fun v h => ⟨h.1, but_row k hx h.2⟩, h5, rdk _ _ h6, fun n hn => (h7 n hn).imp fun z h => ⟨h.1, but_l k hx h.2⟩⟩
theorem ok_Machine_init (T : Tx K mg) : Has P w K mg base CX0 3 d_Machine_init P_Machine_init (spMachineInit K) := by
  have H_check_tree : Has P w K mg base CX0 1 d_check_tree P_check_tree (spCkTree K) := ok_check_tree T
  have H_check_limits : Has P w K mg base CX0 2 d_check_limits P_check_limits (spCkLimits K) := ok_check_limits T
  have H_Tree_rows : Has P w K mg base CX0 1 d_Tree_rows P_Tree_rows (spTRows K) := ok_Tree_rows T
  refine has0 T _ at_d_Machine_init sc_Machine_init (fun fd F => b_Machine_init F) (fun vs H Q E h => ?_) (fun cdv A outer s H vs Q E hr h => ?_)
  · obtain ⟨x, dx, tr, d1, d2, d3, c, rfl, _⟩ := h
    rfl
  · obtain ⟨x, dx, tr, d1, d2, d3, c, rfl, hx, hT, hc, g1, g2, g3, k⟩ := h
    have hu := hu_of hr
    have hw := hc.wf
    have ntx : tr ≠ x := fun e => by
      obtain ⟨_, _, _, _, _, _, h1, _⟩ := hT
      rw [e, hx] at h1
      have := (HO.ins.inj (Option.some.inj h1)).2.2
      cases this
    have nd1 : d1 ≠ x := fun e => by rw [e, hx] at g1; cases g1
    have nd2 : d2 ≠ x := fun e => by rw [e, hx] at g2; cases g2
    have nd3 : d3 ≠ x := fun e => by rw [e, hx] at g3; cases g3
    have nd := sc_Machine_init.nd
    refine ⟨_, (pss_cons (ps_expr (pe_cl H_check_tree hr (by first | decide | omega) T.g_check_tree pass0 (pa_cons (pv 1) pa_nil)))
        (pss_cons (ps_expr (pe_cl H_check_limits hr (by first | decide | omega) T.g_check_limits pass0 (pa_cons (pv 1) (pa_cons (pv 2) (pa_cons pe_bl pa_nil)))))
        (pss_cons (ps_expr (pe_cl H_check_limits hr (by first | decide | omega) T.g_check_limits pass0 (pa_cons (pv 1) (pa_cons (pv 3) (pa_cons pe_bl pa_nil)))))
        (pss_cons (ps_expr (pe_cl H_check_limits hr (by first | decide | omega) T.g_check_limits pass0 (pa_cons (pv 1) (pa_cons (pv 4) (pa_cons pe_bl pa_nil)))))
        (pss_cons (ps_fld (pv 0) (pv 1) rfl)
        (pss_cons (ps_fld (pv 0) (pe_callTy call_dictD (by rfl) T.z_dict (by decide +kernel) (pa_cons (pv 2) pa_nil)) rfl)
        (pss_cons (ps_fld (pv 0) (pe_callTy call_dictD (by rfl) T.z_dict (by decide +kernel) (pa_cons (pv 3) pa_nil)) rfl)
        (pss_cons (ps_fld (pv 0) (pe_callTy call_dictD (by rfl) T.z_dict (by decide +kernel) (pa_cons (pv 4) pa_nil)) rfl)
        (pss_cons (ps_fld (pv 0) pe_dnewK rfl)
        (pss_cons (ps_fld (pv 0) pe_int rfl)
        (pss_one (ps_fld (pv 0) (pe_dc (own := [("row", 5)]) (g := gName 5) (tt := tYes) rfl nd (pi_list (pe_ml0 H_Tree_rows hr (by first | decide | omega) T.c_Tree T.m_Tree_rows pass0 (pv 1))) (blkOk_by (N := N_Machine_init) (sc := defScope s_Machine_init) (by decide +kernel)) (fun _ _ _ _ _ => pg_name (i := 5) nd rfl (Or.inl rfl)) (fun _ _ _ _ _ => pts_nil) (fun _ _ _ _ _ => (pe_ix (ixT K rfl) (pv 5) pe_int (fun _ _ => rfl))) (fun _ _ _ _ _ => pe_int)) rfl)))))))))))), ?_⟩
    refine ⟨_, rfl, tr, c.rs, rfl, hT, ?_⟩
    refine ⟨_, rfl, _, rfl, tr, d1, true, c.rs, c.tn, c.tS, rfl, hT, g1, (fun n hn => ⟨(hc.tn n hn).1.elim (fun e => .inr ⟨rfl, e⟩) .inl, (hc.tn n hn).2⟩), ?_⟩
    refine ⟨_, rfl, _, rfl, tr, d2, true, c.rs, c.pn, c.pS, rfl, hT, g2, (fun n hn => ⟨(hc.pn n hn).1.elim (fun e => .inr ⟨rfl, e⟩) .inl, (hc.pn n hn).2⟩), ?_⟩
    refine ⟨_, rfl, _, rfl, tr, d3, false, c.rs, c.sn, c.sS, rfl, hT, g3, (fun n hn => ⟨.inl (hc.sn n hn).1, (hc.sn n hn).2⟩), ?_⟩
    refine ⟨_, rfl, _, rfl, x, _, dx, _, rfl, hx, T.c_Machine, T.n_Machine_tree, (by show 0 < 1000; decide), ?_⟩
    have K1 : Keep [x] H (upd H x (.ins (He.ga K "Machine") dx [("tree", .ref tr)])) := Keep.upd _
    have X1 : (upd H x (.ins (He.ga K "Machine") dx [("tree", .ref tr)])) x = some (.ins (He.ga K "Machine") dx [("tree", .ref tr)]) := upd_same
    generalize hH1 : upd H x (.ins (He.ga K "Machine") dx [("tree", .ref tr)]) = H1 at K1 X1
    have E1 : (upd H x (.ins (He.ga K "Machine") dx (putF "tree" (.ref tr) []))) = H1 := hH1
    rw [E1]
    -- most_tasks
    refine ⟨_, rfl, d1, _, rfl, .inl (K1 _ _ g1 (by simpa using nd1)), fun p1 hp1 => ?_⟩
    obtain ⟨K2, A2, n2, S2⟩ := put_step (o := .dK (fm c.tn c.tS)) (u := .ins (He.ga K "Machine") dx [("tree", .ref tr), ("most_tasks", .ref p1)]) K1 ⟨_, X1⟩ hp1
    refine ⟨_, rfl, x, _, dx, _, rfl, by rw [upd_ne (Ne.symm n2)]; exact X1, T.c_Machine, T.n_Machine_most_tasks, (by show 1 < 1000; decide), ?_⟩
    have X2 : (upd (upd H1 p1 (.dK (fm c.tn c.tS))) x (.ins (He.ga K "Machine") dx [("tree", .ref tr), ("most_tasks", .ref p1)])) x = some (.ins (He.ga K "Machine") dx [("tree", .ref tr), ("most_tasks", .ref p1)]) := upd_same
    generalize hH2 : upd (upd H1 p1 (.dK (fm c.tn c.tS))) x (.ins (He.ga K "Machine") dx [("tree", .ref tr), ("most_tasks", .ref p1)]) = H2 at K2 A2 S2 X2
    have E2 : upd (upd H1 p1 (.dK (fm c.tn c.tS))) x (.ins (He.ga K "Machine") dx (putF "most_tasks" (.ref p1) [("tree", .ref tr)])) = H2 := hH2
    rw [E2]
    refine ⟨_, rfl, d2, _, rfl, .inl (K2 _ _ g2 (by simpa using nd2)), fun p2 hp2 => ?_⟩
    obtain ⟨K3, A3, n3, S3⟩ := put_step (o := .dK (fm c.pn c.pS)) (u := .ins (He.ga K "Machine") dx [("tree", .ref tr), ("most_tasks", .ref p1), ("most_pages", .ref p2)]) K2 ⟨_, X2⟩ hp2
    refine ⟨_, rfl, x, _, dx, _, rfl, by rw [upd_ne (Ne.symm n3)]; exact X2, T.c_Machine, T.n_Machine_most_pages, (by show 2 < 1000; decide), ?_⟩
    have X3 : (upd (upd H2 p2 (.dK (fm c.pn c.pS))) x (.ins (He.ga K "Machine") dx [("tree", .ref tr), ("most_tasks", .ref p1), ("most_pages", .ref p2)])) x = some (.ins (He.ga K "Machine") dx [("tree", .ref tr), ("most_tasks", .ref p1), ("most_pages", .ref p2)]) := upd_same
    generalize hH3 : upd (upd H2 p2 (.dK (fm c.pn c.pS))) x (.ins (He.ga K "Machine") dx [("tree", .ref tr), ("most_tasks", .ref p1), ("most_pages", .ref p2)]) = H3 at K3 A3 S3 X3
    have E3 : upd (upd H2 p2 (.dK (fm c.pn c.pS))) x (.ins (He.ga K "Machine") dx (putF "most_pages" (.ref p2) [("tree", .ref tr), ("most_tasks", .ref p1)])) = H3 := hH3
    rw [E3]
    refine ⟨_, rfl, d3, _, rfl, .inl (K3 _ _ g3 (by simpa using nd3)), fun p3 hp3 => ?_⟩
    obtain ⟨K4, A4, n4, S4⟩ := put_step (o := .dK (fm c.sn c.sS)) (u := .ins (He.ga K "Machine") dx [("tree", .ref tr), ("most_tasks", .ref p1), ("most_pages", .ref p2), ("safe", .ref p3)]) K3 ⟨_, X3⟩ hp3
    refine ⟨_, rfl, x, _, dx, _, rfl, by rw [upd_ne (Ne.symm n4)]; exact X3, T.c_Machine, T.n_Machine_safe, (by show 3 < 1000; decide), ?_⟩
    have X4 : (upd (upd H3 p3 (.dK (fm c.sn c.sS))) x (.ins (He.ga K "Machine") dx [("tree", .ref tr), ("most_tasks", .ref p1), ("most_pages", .ref p2), ("safe", .ref p3)])) x = some (.ins (He.ga K "Machine") dx [("tree", .ref tr), ("most_tasks", .ref p1), ("most_pages", .ref p2), ("safe", .ref p3)]) := upd_same
    generalize hH4 : upd (upd H3 p3 (.dK (fm c.sn c.sS))) x (.ins (He.ga K "Machine") dx [("tree", .ref tr), ("most_tasks", .ref p1), ("most_pages", .ref p2), ("safe", .ref p3)]) = H4 at K4 A4 S4 X4
    have E4 : upd (upd H3 p3 (.dK (fm c.sn c.sS))) x (.ins (He.ga K "Machine") dx (putF "safe" (.ref p3) [("tree", .ref tr), ("most_tasks", .ref p1), ("most_pages", .ref p2)])) = H4 := hH4
    rw [E4]
    intro p4 hp4
    obtain ⟨K5, A5, n5, S5⟩ := put_step (o := .dK []) (u := .ins (He.ga K "Machine") dx [("tree", .ref tr), ("most_tasks", .ref p1), ("most_pages", .ref p2), ("safe", .ref p3), ("places", .ref p4)]) K4 ⟨_, X4⟩ hp4
    refine ⟨_, rfl, x, _, dx, _, rfl, by rw [upd_ne (Ne.symm n5)]; exact X4, T.c_Machine, T.n_Machine_places, (by show 4 < 1000; decide), ?_⟩
    have X5 : (upd (upd H4 p4 (.dK [])) x (.ins (He.ga K "Machine") dx [("tree", .ref tr), ("most_tasks", .ref p1), ("most_pages", .ref p2), ("safe", .ref p3), ("places", .ref p4)])) x = some (.ins (He.ga K "Machine") dx [("tree", .ref tr), ("most_tasks", .ref p1), ("most_pages", .ref p2), ("safe", .ref p3), ("places", .ref p4)]) := upd_same
    generalize hH5 : upd (upd H4 p4 (.dK [])) x (.ins (He.ga K "Machine") dx [("tree", .ref tr), ("most_tasks", .ref p1), ("most_pages", .ref p2), ("safe", .ref p3), ("places", .ref p4)]) = H5 at K5 A5 S5 X5
    have E5 : upd (upd H4 p4 (.dK [])) x (.ins (He.ga K "Machine") dx (putF "places" (.ref p4) [("tree", .ref tr), ("most_tasks", .ref p1), ("most_pages", .ref p2), ("safe", .ref p3)])) = H5 := hH5
    rw [E5]
    refine ⟨_, rfl, x, _, dx, _, rfl, X5, T.c_Machine, T.n_Machine_many, (by show 5 < 1000; decide), ?_⟩
    have K6 : Keep [x] H (upd H5 x (.ins (He.ga K "Machine") dx [("tree", .ref tr), ("most_tasks", .ref p1), ("most_pages", .ref p2), ("safe", .ref p3), ("places", .ref p4), ("many", .int 0)])) := K5.trans (Keep.upd _)
    have X6 : (upd H5 x (.ins (He.ga K "Machine") dx [("tree", .ref tr), ("most_tasks", .ref p1), ("most_pages", .ref p2), ("safe", .ref p3), ("places", .ref p4), ("many", .int 0)])) x = some (.ins (He.ga K "Machine") dx [("tree", .ref tr), ("most_tasks", .ref p1), ("most_pages", .ref p2), ("safe", .ref p3), ("places", .ref p4), ("many", .int 0)]) := upd_same
    have S6 : ∀ q v, q ≠ x → H5 q = some v → (upd H5 x (.ins (He.ga K "Machine") dx [("tree", .ref tr), ("most_tasks", .ref p1), ("most_pages", .ref p2), ("safe", .ref p3), ("places", .ref p4), ("many", .int 0)])) q = some v := fun q v hq h => by rw [upd_ne hq]; exact h
    generalize hH6 : upd H5 x (.ins (He.ga K "Machine") dx [("tree", .ref tr), ("most_tasks", .ref p1), ("most_pages", .ref p2), ("safe", .ref p3), ("places", .ref p4), ("many", .int 0)]) = H6 at K6 X6 S6
    have E6 : upd H5 x (.ins (He.ga K "Machine") dx (putF "many" (.int 0) [("tree", .ref tr), ("most_tasks", .ref p1), ("most_pages", .ref p2), ("safe", .ref p3), ("places", .ref p4)])) = H6 := hH6
    rw [E6]
    -- the sizes
    have hT6 := TreeAt.but K6 hx ntx hT
    have hT6' := hT6
    obtain ⟨dx', ln, bn, bl, bnk, blk, t1, _⟩ := hT6'
    refine ⟨_, rfl, tr, dx', _, rfl, t1, rfl, tr, c.rs, rfl, hT6, fun q ys hq hrep => ?_⟩
    have eq6 : Ex H6 (upd H6 q (.lst ys)) := Ex.new hq
    have hR : RowsAt K (upd H6 q (.lst ys)) q c.rs := rowsAt_of_reps upd_same (hrep.keep (fun _ _ _ _ e h => h.keep e) eq6.keepT)
    obtain ⟨trr, hsq, hrs, hTr⟩ := hR
    have hz := hw.few
    refine ⟨q, rfl, ⟨_, hsq⟩, fun p5 hp5 => ?_⟩
    refine dc_b trr (·.1) (fun b => some (Sum.inr b.2.nm, V.int 0)) hp5 hsq (by rw [hrs, List.length_map] at hz; omega) (fun i b H' hb e Q q => ?_) (fun H7 e7 h7 => ?_)
    · obtain ⟨t, cv, h3, hTt, _⟩ := (hTr b (List.mem_of_getElem? hb)).keep e.keepT
      exact ⟨rfl, _, rfl, t, _, _, _, h3, rfl, hTt, rfl, q _ (Ex.refl _)⟩
    rw [filterMap_some] at h7
    have hfm : trr.map (fun b => ((Sum.inr b.2.nm : Key), V.int 0)) = fm (nms c.rs) fun _ => 0 := by
      rw [hrs]
      unfold fm nms
      rw [List.map_map, List.map_map]
      rfl
    have h7' : H7 p5 = some (.dK (fm (nms c.rs) fun _ => 0)) := by
      rw [h7, hfm]
      exact congrArg (fun z => some (HO.dK z)) (fm_mergeNil (S := fun _ => 0) hw.nd)
    have e67 := eq6.trans e7
    have X7 := e67 _ _ X6
    have n7 : p5 ≠ x := fun e => by rw [e, X7] at h7'; cases h7'
    refine ⟨_, rfl, x, _, dx, _, rfl, X7, T.c_Machine, T.n_Machine_sizes, (by show 6 < 1000; decide), ?_⟩
    have fin : ∀ q v, q ≠ x → H6 q = some v → (upd H7 x (.ins (He.ga K "Machine") dx [("tree", .ref tr), ("most_tasks", .ref p1), ("most_pages", .ref p2), ("safe", .ref p3), ("places", .ref p4), ("many", .int 0), ("sizes", .ref p5)])) q = some v := fun q v hq h => by rw [upd_ne hq]; exact e67 _ _ h
    have back : ∀ b, H6 b = none → b ≠ x → H b = none := fun b hb hn => by
      cases z : H b with
      | none => rfl
      | some o => rw [K6 b o z (by simpa using hn)] at hb; cases hb
    have f1 := S5 _ _ n2 (S4 _ _ n2 (S3 _ _ n2 A2))
    have f2 := S5 _ _ n3 (S4 _ _ n3 A3)
    have f3 := S5 _ _ n4 A4
    have hb : ∀ {Hk : Hp} {b : Addr}, Keep [x] H Hk → Hk b = none → b ≠ x → H b = none := fun {Hk b} kk h hn => by
      cases z : H b with
      | none => rfl
      | some o => rw [kk b o z (by simpa using hn)] at h; cases h
    have m12 : p1 ≠ p2 := fun e => by rw [← e, A2] at hp2; cases hp2
    have m13 : p1 ≠ p3 := fun e => by rw [← e, S3 _ _ n2 A2] at hp3; cases hp3
    have m23 : p2 ≠ p3 := fun e => by rw [← e, A3] at hp3; cases hp3
    have m14 : p1 ≠ p4 := fun e => by rw [← e, S4 _ _ n2 (S3 _ _ n2 A2)] at hp4; cases hp4
    have m24 : p2 ≠ p4 := fun e => by rw [← e, S4 _ _ n3 A3] at hp4; cases hp4
    have m34 : p3 ≠ p4 := fun e => by rw [← e, A4] at hp4; cases hp4
    have no5 : ∀ b v, b ≠ x → H5 b = some v → b ≠ p5 := fun b v hn h e => by
      have := eq6 _ _ (S6 _ _ hn h)
      rw [e, hp5] at this
      cases this
    refine k ⟨x, dx, tr, p1, p2, p3, p4, p5⟩ _ rfl rfl rfl ⟨?_, upd_same, fin _ _ n2 (S6 _ _ n2 f1), fin _ _ n3 (S6 _ _ n3 f2), fin _ _ n4 (S6 _ _ n4 f3), fin _ _ n5 (S6 _ _ n5 A5), by rw [upd_ne n7]; exact h7', fun b hb' => ?_, ?_⟩
    · exact (K6.exL e67).trans (Keep.upd _)
    · simp only [List.mem_cons, List.mem_nil_iff, or_false] at hb'
      rcases hb' with rfl | rfl | rfl | rfl | rfl
      · exact ⟨hb K1 hp1 n2, n2⟩
      · exact ⟨hb K2 hp2 n3, n3⟩
      · exact ⟨hb K3 hp3 n4, n4⟩
      · exact ⟨hb K4 hp4 n5, n5⟩
      · exact ⟨hb K6 (eq6.free hp5) n7, n7⟩
    · simp [m12, m13, m23, m14, m24, m34, no5 _ _ n2 f1, no5 _ _ n3 f2, no5 _ _ n4 f3, no5 _ _ n5 A5]
end
end K74
set_option Elab.async false
set_option linter.all false
set_option maxRecDepth 100000
set_option maxHeartbeats 4000000
/-! The law's own state. -/
namespace K74
open PySem PySem.Spec PyProof.Rows L2
structure LA where
  st : Addr
  lim : Addr
  kp : Addr
  pl : Addr
  sz : Addr
  mo : Addr
def lF (l : LA) (n : Int) : List (Key × V) := [(Sum.inr "limits", .ref l.lim), (Sum.inr "kept", .ref l.kp), (Sum.inr "places", .ref l.pl), (Sum.inr "many", .int n), (Sum.inr "sizes", .ref l.sz), (Sum.inr "most", .ref l.mo), (Sum.inr "is_kept", .bl true)]
theorem lF_lim (l : LA) (n : Int) : valV (lF l n) (Sum.inr "limits") = some (.ref l.lim) := rfl
theorem lF_kp (l : LA) (n : Int) : valV (lF l n) (Sum.inr "kept") = some (.ref l.kp) := rfl
theorem lF_pl (l : LA) (n : Int) : valV (lF l n) (Sum.inr "places") = some (.ref l.pl) := rfl
theorem lF_many (l : LA) (n : Int) : valV (lF l n) (Sum.inr "many") = some (.int n) := rfl
theorem lF_sz (l : LA) (n : Int) : valV (lF l n) (Sum.inr "sizes") = some (.ref l.sz) := rfl
theorem lF_mo (l : LA) (n : Int) : valV (lF l n) (Sum.inr "most") = some (.ref l.mo) := rfl
theorem lF_ok (l : LA) (n : Int) : valV (lF l n) (Sum.inr "is_kept") = some (.bl true) := rfl
theorem lF_put (l : LA) (n m : Int) : putK (lF l n) (Sum.inr "many") (.int m) = lF l m := rfl
abbrev mutL (l : LA) : List Addr := [l.st, l.pl, l.sz]
structure LSq (K : PySem.W.Frag) (S0 H : Hp) (l : LA) (rw' : Addr) (c : MC) (v : MV) (lp : List (Int × Str)) : Prop where
  ex : Ex S0 H
  rows : RowsAt K S0 rw' c.rs
  lim : S0 l.lim = some (.dK (fm c.pn c.pS))
  kp : S0 l.kp = some (.dK (fm c.sn c.sS))
  mo : S0 l.mo = some (.dK (fm c.tn c.tS))
  nst : S0 l.st = none
  npl : S0 l.pl = none
  nsz : S0 l.sz = none
  n1 : l.st ≠ l.pl
  n2 : l.st ≠ l.sz
  n3 : l.pl ≠ l.sz
  st : H l.st = some (.dK (lF l v.many))
  pl : H l.pl = some (.dK (pk lp))
  sz : H l.sz = some (.dK (fm (lvs c.rs) v.S))
  ok : McOk c
  vok : MvOk c v
  perm : lp.Perm v.ps
section
variable {K : PySem.W.Frag} {S0 H H' : Hp} {l : LA} {a : Addr} {c : MC} {v : MV} {lp : List (Int × Str)}
theorem LSq.to (h : LSq K S0 H l a c v lp) (e : Ex H H') : LSq K S0 H' l a c v lp := ⟨h.ex.trans e, h.rows, h.lim, h.kp, h.mo, h.nst, h.npl, h.nsz, h.n1, h.n2, h.n3, e _ _ h.st, e _ _ h.pl, e _ _ h.sz, h.ok, h.vok, h.perm⟩
theorem LSq.keepL {L : List Addr} (h : LSq K S0 H l a c v lp) (k : Keep L H H') (hL : ∀ b, b ∈ L → S0 b = none ∧ b ∉ mutL l) : LSq K S0 H' l a c v lp :=
  ⟨fun b o hb => k b o (h.ex b o hb) (fun z => by rw [(hL b z).1] at hb; cases hb), h.rows, h.lim, h.kp, h.mo, h.nst, h.npl, h.nsz, h.n1, h.n2, h.n3, k _ _ h.st (fun z => (hL _ z).2 (by simp)), k _ _ h.pl (fun z => (hL _ z).2 (by simp)), k _ _ h.sz (fun z => (hL _ z).2 (by simp)), h.ok, h.vok, h.perm⟩
theorem LSq.Rows (h : LSq K S0 H l a c v lp) : RowsAt K H a c.rs := h.rows.ex h.ex
theorem LSq.Lim (h : LSq K S0 H l a c v lp) : H l.lim = some (.dK (fm c.pn c.pS)) := h.ex _ _ h.lim
theorem LSq.Kp (h : LSq K S0 H l a c v lp) : H l.kp = some (.dK (fm c.sn c.sS)) := h.ex _ _ h.kp
theorem LSq.Mo (h : LSq K S0 H l a c v lp) : H l.mo = some (.dK (fm c.tn c.tS)) := h.ex _ _ h.mo
theorem LSq.gLim (h : LSq K S0 H l a c v lp) : DGet H l.st (.str "limits") (some (.ref l.lim)) := .inl ⟨_, Sum.inr "limits", .inl h.st, rfl, (lF_lim l v.many).symm⟩
theorem LSq.gKp (h : LSq K S0 H l a c v lp) : DGet H l.st (.str "kept") (some (.ref l.kp)) := .inl ⟨_, Sum.inr "kept", .inl h.st, rfl, (lF_kp l v.many).symm⟩
theorem LSq.gPl (h : LSq K S0 H l a c v lp) : DGet H l.st (.str "places") (some (.ref l.pl)) := .inl ⟨_, Sum.inr "places", .inl h.st, rfl, (lF_pl l v.many).symm⟩
theorem LSq.gMany (h : LSq K S0 H l a c v lp) : DGet H l.st (.str "many") (some (.int v.many)) := .inl ⟨_, Sum.inr "many", .inl h.st, rfl, (lF_many l v.many).symm⟩
theorem LSq.gSz (h : LSq K S0 H l a c v lp) : DGet H l.st (.str "sizes") (some (.ref l.sz)) := .inl ⟨_, Sum.inr "sizes", .inl h.st, rfl, (lF_sz l v.many).symm⟩
theorem LSq.gMo (h : LSq K S0 H l a c v lp) : DGet H l.st (.str "most") (some (.ref l.mo)) := .inl ⟨_, Sum.inr "most", .inl h.st, rfl, (lF_mo l v.many).symm⟩
theorem LSq.gOk (h : LSq K S0 H l a c v lp) : DGet H l.st (.str "is_kept") (some (.bl true)) := .inl ⟨_, Sum.inr "is_kept", .inl h.st, rfl, (lF_ok l v.many).symm⟩
theorem LSq.lst (h : LSq K S0 H l a c v lp) : LSt K H a l.sz l.kp c.rs v.S c.sn c.sS := ⟨h.Rows, h.ok.wf, .inl h.sz, .inl h.Kp, ksok h.ok h.vok⟩
theorem LSq.nd (h : LSq K S0 H l a c v lp) : (lp.map (·.1)).Nodup := (h.perm.map (·.1)).nodup_iff.mpr h.vok.nd
theorem LSq.few (h : LSq K S0 H l a c v lp) : lp.length ≤ 1000 := by rw [h.perm.length_eq]; exact h.vok.few
end
/-- what a reader of the law's state asks: the sizes may be walked over -/
structure LRd (K : PySem.W.Frag) (S0 H : Hp) (l : LA) (a : Addr) (c : MC) (v : MV) : Prop where
  ex : Ex S0 H
  rows : RowsAt K S0 a c.rs
  lim : S0 l.lim = some (.dK (fm c.pn c.pS))
  nst : S0 l.st = none
  nsz : S0 l.sz = none
  st : H l.st = some (.dK (lF l v.many))
  sz : Rd H l.sz (.dK (fm (lvs c.rs) v.S))
  ok : McOk c
  vok : MvOk c v
section
variable {K : PySem.W.Frag} {S0 H H' : Hp} {l : LA} {a : Addr} {c : MC} {v : MV} {lp : List (Int × Str)} {L : List Addr}
theorem LSq.rd (h : LSq K S0 H l a c v lp) : LRd K S0 H l a c v := ⟨h.ex, h.rows, h.lim, h.nst, h.nsz, h.st, .inl h.sz, h.ok, h.vok⟩
theorem LRd.keepL (h : LRd K S0 H l a c v) (k : Keep L H H') (hL : ∀ b, b ∈ L → S0 b = none ∧ b ≠ l.st ∧ b ≠ l.sz) : LRd K S0 H' l a c v :=
  ⟨fun b o hb => k b o (h.ex b o hb) (fun z => by rw [(hL b z).1] at hb; cases hb), h.rows, h.lim, h.nst, h.nsz, k _ _ h.st (fun z => (hL _ z).2.1 rfl), h.sz.imp (fun q => k _ _ q fun z => (hL _ z).2.2 rfl) (fun ⟨o, q⟩ => ⟨o, k _ _ q fun z => (hL _ z).2.2 rfl⟩), h.ok, h.vok⟩
theorem LRd.to (h : LRd K S0 H l a c v) (e : Ex H H') : LRd K S0 H' l a c v := h.keepL (L := []) (Keep.of e) fun b hb => by cases hb
theorem LRd.Rows (h : LRd K S0 H l a c v) : RowsAt K H a c.rs := h.rows.ex h.ex
theorem LRd.Lim (h : LRd K S0 H l a c v) : H l.lim = some (.dK (fm c.pn c.pS)) := h.ex _ _ h.lim
theorem LRd.gLim (h : LRd K S0 H l a c v) : DGet H l.st (.str "limits") (some (.ref l.lim)) := .inl ⟨_, Sum.inr "limits", .inl h.st, rfl, (lF_lim l v.many).symm⟩
theorem LRd.gSz (h : LRd K S0 H l a c v) : DGet H l.st (.str "sizes") (some (.ref l.sz)) := .inl ⟨_, Sum.inr "sizes", .inl h.st, rfl, (lF_sz l v.many).symm⟩
end
end K74
set_option Elab.async false
set_option linter.all false
set_option maxRecDepth 100000
set_option maxHeartbeats 4000000
namespace K74
open PySem PySem.Spec PyProof.Rows L2
section
variable {P : Program} {w : World} {K : PySem.W.Frag} {mg : Str → Option Value} {base : Heap}
abbrev N_l_due_room : List Str := ["_law_rows_here", "_law_state", "_law_leaf", "_law_number", "_law_name"]
abbrev P_l_due_room : List Str := ["_law_rows_here", "_law_state", "_law_leaf", "_law_number"]
theorem sc_l_due_room : FnScope N_l_due_room P_l_due_room (defScope s_l_due_room) := C8.fnScope_by (by decide +kernel)
theorem b_l_due_room {K : PySem.W.Frag} {fd : FuncData} (F : FunD K d_l_due_room.name d_l_due_room.qual d_l_due_room.params d_l_due_room.body d_l_due_room.scope (d_l_due_room.dvs K) (d_l_due_room.kws K) (He.fAd K d_l_due_room.at_) fd) : L2.Binds K fd P_l_due_room [] :=
  FunD.bindsN F fun _ _ _ _ _ _ us hl => match us, hl with | [_, _, _, _], _ => rfl
abbrev N_l_spare : List Str := ["_law_rows_here", "_law_state", "_law_leaf", "_law_some", "_law_name"]
abbrev P_l_spare : List Str := ["_law_rows_here", "_law_state", "_law_leaf"]
theorem sc_l_spare : FnScope N_l_spare P_l_spare (defScope s_l_spare) := C8.fnScope_by (by decide +kernel)
theorem b_l_spare {K : PySem.W.Frag} {fd : FuncData} (F : FunD K d_l_spare.name d_l_spare.qual d_l_spare.params d_l_spare.body d_l_spare.scope (d_l_spare.dvs K) (d_l_spare.kws K) (He.fAd K d_l_spare.at_) fd) : L2.Binds K fd P_l_spare [] :=
  FunD.bindsN F fun _ _ _ _ _ _ us hl => match us, hl with | [_, _, _], _ => rfl
abbrev N_l_running : List Str := ["_law_rows_here", "_law_state", "_law_name", "_law_task"]
abbrev P_l_running : List Str := ["_law_rows_here", "_law_state", "_law_name"]
theorem sc_l_running : FnScope N_l_running P_l_running (defScope s_l_running) := C8.fnScope_by (by decide +kernel)
theorem b_l_running {K : PySem.W.Frag} {fd : FuncData} (F : FunD K d_l_running.name d_l_running.qual d_l_running.params d_l_running.body d_l_running.scope (d_l_running.dvs K) (d_l_running.kws K) (He.fAd K d_l_running.at_) fd) : L2.Binds K fd P_l_running [] :=
  FunD.bindsN F fun _ _ _ _ _ _ us hl => match us, hl with | [_, _, _], _ => rfl
def dueV (c : MC) (N : Int) (x : Str) : V := match (wayD c.rs x).find? (dueB c N) with
  | some n => .str n
  | none => .non
def spDueRoom (K : PySem.W.Frag) : Sp := fun vs H Q _ => ∃ (S0 : Hp) (l : LA) (a : Addr) (c : MC) (v : MV) (lp : List (Int × Str)) (x : Str) (N : Int), vs = [.ref a, .ref l.st, .str x, .int N] ∧ LSq K S0 H l a c v lp ∧ x ∈ lvs c.rs ∧ ∀ H', Ex H H' → Q (dueV c N x) H'
theorem ok_l_due_room (T : Tx K mg) : Has P w K mg base CX0 3 d_l_due_room P_l_due_room (spDueRoom K) := by
  have H_l_way : Has P w K mg base CX0 2 d_l_way P_l_way (spWay K) := ok_l_way T
  refine has0 T _ at_d_l_due_room sc_l_due_room (fun fd F => b_l_due_room F) (fun vs H Q E h => ?_) (fun cdv A outer s H vs Q E hr h => ?_)
  · obtain ⟨S0, l, a, c, v, lp, x, N, rfl, _⟩ := h
    rfl
  · obtain ⟨S0, l, a, c, v, lp, x, N, rfl, L, hx, k⟩ := h
    have hu := hu_of hr
    have hw := L.ok.wf
    have nd := sc_l_due_room.nd
    refine ⟨_, (pss_cons (ps_for PassesOwn.never rfl (pi_list (pe_cl H_l_way hr (by first | decide | omega) T.g_l_way pass0 (pa_cons (pv 0) (pa_cons (pv 2) pa_nil)))) (pg_name (i := 4) nd rfl (Or.inl rfl))
          (pss_one (ps_if (PW.pt (pw_and (pt_cmp (pc_din hu (pv 4) (pe_dget hu (pv 1) pe_str (fun _ _ => rfl)))) (pw_and1 (pt_cmpR op_lt (pe_dget hu (pe_dget hu (pv 1) pe_str (fun _ _ => rfl)) (pv 4) (fun _ _ => rfl)) (pv 3) (nomark _))))) (pss_one (ps_ret (pv 4))) pss_nil)))
        (pss_one (ps_ret pe_non))), ?_⟩
    refine ⟨_, rfl, _, rfl, a, x, c.rs, rfl, L.Rows, hw, .inr (lvs_nms hx), fun p H1 hp e1 h1 => ?_⟩
    have L1 := L.to e1
    have h1' : H1 p = some (.lst ((wayD c.rs x).map V.str)) := h1
    refine ⟨p, rfl, ⟨_, K74.SqL.of' h1'⟩, ?_⟩
    refine for_list (K := K) (a := p) (xs := (wayD c.rs x).map V.str) (fun i σ H' => (∃ z4, σ = [some (.ref a), some (.ref l.st), some (.str x), some (.int N), z4]) ∧ Ex H1 H' ∧ ∀ n, n ∈ (wayD c.rs x).take i → dueB c N n = false)
      ⟨⟨_, rfl⟩, Ex.refl _, fun n hn => by cases hn⟩ (fun i σ H' _ pv => pv.2.1.l (K74.SqL.of' h1')) (fun i y σ H' hy pv => ?_) (fun σ H4 pv => ?_)
    · obtain ⟨⟨z4, rfl⟩, e4, hlo⟩ := pv
      rw [List.getElem?_map] at hy
      obtain ⟨n, hn, rfl⟩ := Option.map_eq_some_iff.mp hy
      obtain ⟨f1, f2⟩ := find_take hn hlo
      have L4 := L1.to e4
      have e5 := e1.trans e4
      refine ⟨_, rfl, _, rfl, l.st, _, rfl, L4.gLim, l.lim, _, rfl, get_fmO n (.inl L4.Lim), ?_⟩
      by_cases c1 : n ∈ c.pn
      · rw [if_pos c1]
        refine ⟨_, rfl, ifT rfl ?_⟩
        refine ⟨_, rfl, l.st, _, rfl, L4.gLim, _, rfl, l.lim, _, rfl, get_fm (.inl L4.Lim) c1, _, rfl, _, _, rfl, rfl, _, rfl, ?_⟩
        by_cases c2 : c.pS n < N
        · refine ifT (decide_eq_true c2) ⟨_, rfl, ?_⟩
          have hf := f1 (by unfold dueB; rw [decide_eq_true c1, decide_eq_true c2]; rfl)
          have e : dueV c N x = .str n := by
            unfold dueV
            rw [hf]
          rw [e] at k
          exact k _ e5
        · exact ifF (decide_eq_false c2) ⟨⟨_, rfl⟩, e4, f2 (by unfold dueB; rw [decide_eq_false c2, Bool.and_false])⟩
      · rw [if_neg c1]
        exact ⟨_, rfl, ifF rfl (ifF rfl ⟨⟨_, rfl⟩, e4, f2 (by unfold dueB; rw [decide_eq_false c1, Bool.false_and])⟩)⟩
    · obtain ⟨⟨z4, rfl⟩, e4, hlo⟩ := pv
      rw [List.length_map, take_len] at hlo
      have hf : (wayD c.rs x).find? (dueB c N) = none := by
        rw [List.find?_eq_none]
        intro n hn
        rw [hlo n hn]
        decide
      have e : dueV c N x = .non := by
        unfold dueV
        rw [hf]
      rw [e] at k
      exact k _ (e1.trans e4)
theorem dp_ints {H : Hp} (ys : List Int) : DpAll K H (ys.map V.int) (ys.map PyData.int) := by
  induction ys with
  | nil => exact .nil
  | cons y ys ih => exact .cons (.int y) ih
theorem shaped_ints (ys : List Int) : SeqAt.shaped (.list (ys.map PyData.int)) = true := by
  have h1 : PyData.canLayAll0 (ys.map PyData.int) = true := by
    induction ys with
    | nil => rfl
    | cons y ys ih =>
      show (true && PyData.canLayAll0 (ys.map PyData.int)) = true
      rw [ih]
      rfl
  have h2 : PyData.depthAll (ys.map PyData.int) = 0 := by
    clear h1
    induction ys with
    | nil => rfl
    | cons y ys ih =>
      show max 0 (PyData.depthAll (ys.map PyData.int)) = 0
      rw [ih]
      rfl
  unfold SeqAt.shaped
  show (PyData.canLayAll0 (ys.map PyData.int) && decide (PyData.depthAll (ys.map PyData.int) + 1 ≤ 64)) = true
  rw [h1, h2]
  rfl
theorem eqv_ints_nil (ys : List Int) : PyData.eqv (.list (ys.map PyData.int)) (.list []) = decide (ys = []) := by
  cases ys with
  | nil => rfl
  | cons y ys => rfl
def spareL (c : MC) (v : MV) (ns : List Str) : List Int := (ns.filter fun n => decide (n ∈ c.pn)).map fun n => c.pS n - chg c.rs (lvs c.rs) v.S n
theorem spareL_snoc (c : MC) (v : MV) (ns : List Str) (n : Str) : spareL c v (ns ++ [n]) = if n ∈ c.pn then spareL c v ns ++ [c.pS n - chg c.rs (lvs c.rs) v.S n] else spareL c v ns := by
  unfold spareL
  rw [List.filter_append, List.map_append]
  by_cases h : n ∈ c.pn
  · simp [h]
  · simp [h]
def spLSpare (K : PySem.W.Frag) : Sp := fun vs H Q _ => ∃ (S0 : Hp) (l : LA) (a : Addr) (c : MC) (v : MV) (x : Str), vs = [.ref a, .ref l.st, .str x] ∧ LRd K S0 H l a c v ∧ x ∈ lvs c.rs ∧ ∀ r H', Ex H H' → MinV (spareL c v (wayD c.rs x)) r → Q r H'
theorem ok_l_spare (T : Tx K mg) : Has P w K mg base CX0 3 d_l_spare P_l_spare (spLSpare K) := by
  have H_l_way : Has P w K mg base CX0 2 d_l_way P_l_way (spWay K) := ok_l_way T
  have H_l_charged : Has P w K mg base CX0 2 d_l_charged P_l_charged (spCharged K) := ok_l_charged T
  refine has0 T _ at_d_l_spare sc_l_spare (fun fd F => b_l_spare F) (fun vs H Q E h => ?_) (fun cdv A outer s H vs Q E hr h => ?_)
  · obtain ⟨S0, l, a, c, v, x, rfl, _⟩ := h
    rfl
  · obtain ⟨S0, l, a, c, v, x, rfl, L, hx, k⟩ := h
    have hu := hu_of hr
    have hw := L.ok.wf
    have hwz := wayD_len hw x
    have nd := sc_l_spare.nd
    refine ⟨_, (pss_cons (ps_set (i := 3) nd rfl (Or.inl rfl) (pe_lst pa_nil))
        (pss_cons (ps_for PassesOwn.never rfl (pi_list (pe_cl H_l_way hr (by first | decide | omega) T.g_l_way pass0 (pa_cons (pv 0) (pa_cons (pv 2) pa_nil)))) (pg_name (i := 4) nd rfl (Or.inl rfl))
          (pss_one (ps_if (pt_cmp (pc_din hu (pv 4) (pe_dget hu (pv 1) pe_str (fun _ _ => rfl)))) (pss_one (ps_expr (pe_bm PySem.F.plainAttrs_list PySem.F.slot_list_append PySem.F.type_list_append mt_append (pv 3) (pa_cons (pe_op op_sub (pe_dget hu (pe_dget hu (pv 1) pe_str (fun _ _ => rfl)) (pv 4) (fun _ _ => rfl)) (pe_cl H_l_charged hr (by first | decide | omega) T.g_l_charged pass0 (pa_cons (pv 0) (pa_cons (pe_dget hu (pv 1) pe_str (fun _ _ => rfl)) (pa_cons (pv 4) pa_nil))))) pa_nil)))) pss_nil)))
        (pss_one (ps_ret (pe_ifExp (pt_cmpR (opNeD K rfl hr.units) (pv 3) (pe_lst pa_nil) (nomark _)) (pe_callB (cr_min rfl) (by rfl) T.z_min (by decide +kernel) (pa_cons (pv 3) pa_nil)) pe_non))))), ?_⟩
    refine ⟨by show 0 ≤ sizeLine; decide, fun D hD => ?_⟩
    have L0 := L.to (Ex.new (o := .lst []) hD)
    refine ⟨_, rfl, _, rfl, a, x, c.rs, rfl, L0.Rows, hw, .inr (lvs_nms hx), fun p H1 hp e1 h1 => ?_⟩
    have L1 := L0.to e1
    have h1' : H1 p = some (.lst ((wayD c.rs x).map V.str)) := h1
    have hD1 : H1 D = some (.lst []) := e1 _ _ upd_same
    have npD : p ≠ D := fun e => by
      rw [e, upd_same] at hp
      cases hp
    refine ⟨p, rfl, ⟨_, K74.SqL.of' h1'⟩, ?_⟩
    have hstay : ∀ H', Keep [D] H1 H' → H' p = some (.lst ((wayD c.rs x).map V.str)) := fun H' kk => kk _ _ h1' (by simpa using npD)
    have hDn : ∀ b, b ∈ [D] → S0 b = none ∧ b ≠ l.st ∧ b ≠ l.sz := fun b hb => by
      rw [List.mem_singleton.mp hb]
      refine ⟨L.ex.free hD, fun z => ?_, fun z => ?_⟩
      · have h2 := L.st
        rw [← z, hD] at h2
        cases h2
      · rcases L.sz with h2 | ⟨o, h2⟩
        · rw [← z, hD] at h2
          cases h2
        · rw [← z, hD] at h2
          cases h2
    refine for_list (K := K) (a := p) (xs := (wayD c.rs x).map V.str) (fun i σ H' => (∃ z4, σ = [some (.ref a), some (.ref l.st), some (.str x), some (.ref D), z4]) ∧ Keep [D] H1 H' ∧ H' D = some (.lst ((spareL c v ((wayD c.rs x).take i)).map V.int)))
      ⟨⟨_, rfl⟩, fun _ _ h _ => h, hD1⟩ (fun i σ H' _ pv => K74.SqL.of' (hstay _ pv.2.1)) (fun i y σ H' hy pv => ?_) (fun σ H4 pv => ?_)
    · obtain ⟨⟨z4, rfl⟩, k4, h4⟩ := pv
      rw [List.getElem?_map] at hy
      obtain ⟨n, hn, rfl⟩ := Option.map_eq_some_iff.mp hy
      have L4 := L1.keepL k4 hDn
      have et : (wayD c.rs x).take (i + 1) = (wayD c.rs x).take i ++ [n] := by rw [List.take_succ, hn]; rfl
      rw [et, spareL_snoc]
      refine ⟨_, rfl, _, rfl, l.st, _, rfl, L4.gLim, l.lim, _, rfl, get_fmO n (.inl L4.Lim), _, rfl, ?_⟩
      by_cases c1 : n ∈ c.pn
      · rw [if_pos c1, if_pos c1]
        refine ifT rfl ?_
        refine ⟨_, rfl, .inl ⟨rfl, _, K74.SqL.of' h4⟩, _, rfl, l.st, _, rfl, L4.gLim, _, rfl, l.lim, _, rfl, get_fm (.inl L4.Lim) c1, _, rfl, _, rfl, l.st, _, rfl, L4.gSz, _, rfl, a, l.sz, n, c.rs, lvs c.rs, v.S, rfl, L4.Rows, hw.few, Nat.le_trans (lvs_len c.rs) hw.few, L4.sz, fun H6 e6 => ⟨_, _, rfl, rfl, ?_⟩⟩
        have h6 := e6 _ _ h4
        refine ⟨D, _, _, rfl, rfl, h6, ?_, ⟨_, rfl⟩, ?_, ?_⟩
        · have h7 : (spareL c v ((wayD c.rs x).take i)).length ≤ 9 := by
            unfold spareL
            rw [List.length_map]
            have h8 := List.length_filter_le (fun n => decide (n ∈ c.pn)) ((wayD c.rs x).take i)
            rw [List.length_take] at h8
            omega
          rw [List.length_map, sizeLine_eq]
          omega
        · exact (k4.exL e6).trans (Keep.upd _)
        · rw [upd_same, List.map_append]
          rfl
      · rw [if_neg c1, if_neg c1]
        exact ifF rfl ⟨⟨_, rfl⟩, k4, h4⟩
    · obtain ⟨⟨z4, rfl⟩, k4, h4⟩ := pv
      rw [List.length_map, take_len] at h4
      have eH : Ex H H4 := fun b o hb => k4 _ _ (e1 _ _ ((Ex.new hD) _ _ hb)) fun z => by
        rw [List.mem_singleton.mp z, hD] at hb
        cases hb
      refine ⟨_, rfl, by show 0 ≤ sizeLine; decide, fun le hle => ?_⟩
      have e5 : Ex H4 (upd H4 le (.lst [])) := Ex.new hle
      refine ⟨.list ((spareL c v (wayD c.rs x)).map PyData.int), .list [], .lst (K74.SqL.of' (e5 _ _ h4)) (dp_ints _), .lst (K74.SqL.of' upd_same) .nil, shaped_ints _, rfl, ?_⟩
      rw [eqv_ints_nil]
      refine ⟨_, rfl, ?_⟩
      by_cases c1 : spareL c v (wayD c.rs x) = []
      · exact ifF (by simp [c1]) (k _ _ (eH.trans e5) (.inl ⟨c1, rfl⟩))
      · refine ifT (by simp [c1]) ?_
        exact ⟨_, rfl, D, _, rfl, K74.SqL.of' (e5 _ _ h4), List.length_pos_iff.mpr c1, fun m h1 h2 => k _ _ (eH.trans e5) (.inr ⟨m, rfl, h1, h2⟩)⟩
theorem wayD_in {rs : List RowD} {x n : Str} : n ∈ wayD rs x ↔ InB ("" : Str) (RR rs) n x := by
  unfold wayD InB
  exact List.mem_cons
def spLRunning (K : PySem.W.Frag) : Sp := fun vs H Q _ => ∃ (S0 : Hp) (l : LA) (a : Addr) (c : MC) (v : MV) (lp : List (Int × Str)) (x : Str), vs = [.ref a, .ref l.st, .str x] ∧ LSq K S0 H l a c v lp ∧ ∀ H', Ex H H' → Q (.int (runN c.rs v.ps x)) H'
theorem runN_perm {rs : List RowD} {ps qs : List (Int × Str)} (h : ps.Perm qs) (x : Str) : runN rs ps x = runN rs qs x := by
  unfold runN
  rw [(h.filter _).length_eq]
theorem ok_l_running (T : Tx K mg) : Has P w K mg base CX0 3 d_l_running P_l_running (spLRunning K) := by
  have H_l_way : Has P w K mg base CX0 2 d_l_way P_l_way (spWay K) := ok_l_way T
  refine has0 T _ at_d_l_running sc_l_running (fun fd F => b_l_running F) (fun vs H Q E h => ?_) (fun cdv A outer s H vs Q E hr h => ?_)
  · obtain ⟨S0, l, a, c, v, lp, x, rfl, _⟩ := h
    rfl
  · obtain ⟨S0, l, a, c, v, lp, x, rfl, L, k⟩ := h
    have hu := hu_of hr
    have hw := L.ok.wf
    have nd := sc_l_running.nd
    refine ⟨_, (pss_one (ps_ret (pe_callB (callLen K rfl) (by rfl) T.z_len (by decide +kernel) (pa_cons (pe_lockO (pe_lc (own := [("_law_task", 3)]) (g := gName 3) rfl nd (pi_keys (pe_dget hu (pv 1) pe_str (fun _ _ => rfl))) (blkOk_by (N := N_l_running) (sc := defScope s_l_running) (by decide +kernel)) (fun _ _ _ _ _ => pg_name (i := 3) nd rfl (Or.inl rfl)) (fun _ _ _ _ _ => (pts_one (pt_cmpR (opIn K rfl) (pv 2) (pe_cl H_l_way hr (by first | decide | omega) T.g_l_way pass0 (pa_cons (pv 0) (pa_cons (pe_dget hu (pe_dget hu (pv 1) pe_str (fun _ _ => rfl)) (pv 3) (fun _ _ => rfl)) pa_nil))) (by rfl)))) (fun _ _ _ _ _ => (pv 3)))) pa_nil)))), ?_⟩
    refine keysC (.inl L.pl) (by rw [pk_len]; have := L.few; omega) (fun kv => match kv with | (.inl t, .str y) => if decide (x ∈ wayD c.rs y) = true then some (V.int t) else none | _ => none)
      (fun od Hl h2 h3 Q1 q1 => ⟨_, rfl, l.st, _, rfl, .inl ⟨_, Sum.inr "places", .inl (by rw [h3 _ L.n1]; exact L.st), rfl, (lF_pl l v.many).symm⟩, q1⟩) (fun i kk vv od Hl H' hk h2 h3 e Q q => ?_) (fun p2 H2 hp2 e2 h2 => ?_)
    · unfold pk at hk
      rw [List.getElem?_map] at hk
      obtain ⟨y, hy, hye⟩ := Option.map_eq_some_iff.mp hk
      cases hye
      have hym := List.mem_of_getElem? hy
      have hl : y.2 ∈ lvs c.rs := L.vok.ls y (L.perm.subset hym)
      have sf : Soft l.pl (pk lp) H Hl := ⟨.inl L.pl, ⟨od, h2⟩, h3⟩
      have hst : H' l.st = some (.dK (lF l v.many)) := e _ _ (by rw [h3 _ L.n1]; exact L.st)
      have gp : DGet H' l.st (.str "places") (some (.ref l.pl)) := .inl ⟨_, Sum.inr "places", .inl hst, rfl, (lF_pl l v.many).symm⟩
      have gt : DGet H' l.pl (.int y.1) (some (.str y.2)) := .inl ⟨_, Sum.inl y.1, .inr ⟨od, e _ _ h2⟩, rfl, by rw [pk_val, lkp_of L.nd hym]; rfl⟩
      refine ⟨rfl, _, rfl, _, rfl, _, rfl, l.st, _, rfl, gp, _, rfl, l.pl, _, rfl, gt, a, y.2, c.rs, rfl, (sf.rows L.Rows).ex e, hw, .inr (lvs_nms hl), fun p H4 hp e4 h4 => ?_⟩
      have h4' : H4 p = some (.lst ((wayD c.rs y.2).map V.str)) := h4
      refine ⟨p, _, rfl, .inl (K74.SqL.of' h4'), rfl, flat_strs _, ?_⟩
      rw [inV_str]
      refine ⟨_, rfl, ?_⟩
      by_cases cc : x ∈ wayD c.rs y.2
      · have qq : ∀ H5, Ex H' H5 → Q (some (V.int y.1)) H5 := fun H5 e5 => by
          have := q H5 e5
          simpa [cc] using this
        exact ifT (decide_eq_true cc) ⟨_, rfl, qq _ e4⟩
      · have qq : ∀ H5, Ex H' H5 → Q none H5 := fun H5 e5 => by
          have := q H5 e5
          simpa [cc] using this
        exact ifF (decide_eq_false cc) (qq _ e4)
    · refine ⟨p2, _, rfl, .inl (K74.SqL.of' h2), ?_⟩
      have el : ((pk lp).filterMap (fun kv => match kv with | (.inl t, .str y) => if decide (x ∈ wayD c.rs y) = true then some (V.int t) else none | _ => none)).length = (lp.filter fun p => decide (InB ("" : Str) (RR c.rs) x p.2)).length := by
        unfold pk
        rw [List.filterMap_map]
        show (lp.filterMap fun p => if decide (x ∈ wayD c.rs p.2) = true then some (V.int p.1) else none).length = _
        rw [filterMap_if (fun p : Int × Str => decide (x ∈ wayD c.rs p.2)) (fun p => V.int p.1), List.length_map]
        simp only [wayD_in]
      rw [el]
      have := k H2 e2
      rw [← runN_perm L.perm] at this
      exact this
end
end K74
set_option Elab.async false
set_option linter.all false
set_option maxRecDepth 100000
set_option maxHeartbeats 4000000
namespace K74
open PySem PySem.Spec PyProof.Rows L2
section
variable {P : Program} {w : World} {K : PySem.W.Frag} {mg : Str → Option Value} {base : Heap}
abbrev N_l_took : List Str := ["_law_rows_here", "_law_state", "_law_leaf", "_law_number", "_law_found", "_law_sizes", "_law_name", "_law_more", "_law_lost_here", "_law_one"]
abbrev P_l_took : List Str := ["_law_rows_here", "_law_state", "_law_leaf", "_law_number"]
theorem sc_l_took : FnScope N_l_took P_l_took (defScope s_l_took) := C8.fnScope_by (by decide +kernel)
theorem b_l_took {K : PySem.W.Frag} {fd : FuncData} (F : FunD K d_l_took.name d_l_took.qual d_l_took.params d_l_took.body d_l_took.scope (d_l_took.dvs K) (d_l_took.kws K) (He.fAd K d_l_took.at_) fd) : L2.Binds K fd P_l_took [] :=
  FunD.bindsN F fun _ _ _ _ _ _ us hl => match us, hl with | [_, _, _, _], _ => rfl
theorem LSq.upS {K : PySem.W.Frag} {S0 H H' : Hp} {l : LA} {a : Addr} {c : MC} {v : MV} {lp : List (Int × Str)} {L : List Addr} {S : Str → Int} (h : LSq K S0 H l a c v lp) (k : Keep (l.sz :: L) H H') (hL : ∀ b, b ∈ L → S0 b = none ∧ b ∉ mutL l) (hs : H' l.sz = some (.dK (fm (lvs c.rs) S))) (ok : MvOk c { v with S := S }) : LSq K S0 H' l a c { v with S := S } lp :=
  ⟨fun b o hb => k b o (h.ex b o hb) (fun z => by
      rcases List.mem_cons.mp z with e | e
      · rw [e, h.nsz] at hb; cases hb
      · rw [(hL b e).1] at hb; cases hb), h.rows, h.lim, h.kp, h.mo, h.nst, h.npl, h.nsz, h.n1, h.n2, h.n3,
    k _ _ h.st (fun z => (List.mem_cons.mp z).elim h.n2 fun e => (hL _ e).2 (by simp)), k _ _ h.pl (fun z => (List.mem_cons.mp z).elim h.n3 fun e => (hL _ e).2 (by simp)), hs, h.ok, ok, h.perm⟩
theorem LSq.notin {K : PySem.W.Frag} {S0 H : Hp} {l : LA} {a : Addr} {c : MC} {v : MV} {lp : List (Int × Str)} (L : LSq K S0 H l a c v lp) {d : Addr} (hd : H d = none) : S0 d = none ∧ d ∉ mutL l := by
  refine ⟨L.ex.free hd, fun z => ?_⟩
  have h2 := L.st
  have h3 := L.pl
  have h4 := L.sz
  simp only [List.mem_cons, List.mem_nil_iff, or_false] at z
  rcases z with z | z | z <;> simp_all
def spTook (K : PySem.W.Frag) : Sp := fun vs H Q _ => ∃ (S0 : Hp) (l : LA) (a : Addr) (c : MC) (v : MV) (lp : List (Int × Str)) (x : Str) (N : Int), vs = [.ref a, .ref l.st, .str x, .int N] ∧ LSq K S0 H l a c v lp ∧ x ∈ lvs c.rs ∧ 0 ≤ N ∧ (∀ n, v.S n + N < 10 ^ 60) ∧ (wayD c.rs x).find? (dueB c N) = none ∧
  ∀ d H', H d = none → Keep [l.sz] H H' → LSq K S0 H' l a c { v with S := takenS c v N x } lp → H' d = some (.dK (fm (takeR c v N x).2.1 (takeR c v N x).2.2)) → Q (.ref d) H'
theorem ok_l_took (T : Tx K mg) : Has P w K mg base CX0 6 d_l_took P_l_took (spTook K) := by
  have H_l_way : Has P w K mg base CX0 2 d_l_way P_l_way (spWay K) := ok_l_way T
  have H_l_charged : Has P w K mg base CX0 2 d_l_charged P_l_charged (spCharged K) := ok_l_charged T
  have H_l_lost : Has P w K mg base CX0 5 d_l_lost P_l_lost (spLost K) := ok_l_lost T
  refine has0 T _ at_d_l_took sc_l_took (fun fd F => b_l_took F) (fun vs H Q E h => ?_) (fun cdv A outer s H vs Q E hr h => ?_)
  · obtain ⟨S0, l, a, c, v, lp, x, N, rfl, _⟩ := h
    rfl
  · obtain ⟨S0, l, a, c, v, lp, x, N, rfl, L, hxl, h0, hsm, hfind, k2⟩ := h
    have hu := hu_of hr
    have hw := L.ok.wf
    have ks := ksok L.ok L.vok
    have hwz := wayD_len hw x
    have hlvz : (lvs c.rs).length ≤ 8 := Nat.le_trans (lvs_len c.rs) hw.few
    have nd := sc_l_took.nd
    refine ⟨_, (pss_cons (ps_par (i := 4) (j := 5) rfl nd rfl rfl (by decide) rfl rfl (pa_cons pe_dnewK (pa_cons (pe_dget hu (pv 1) pe_str (fun _ _ => rfl)) pa_nil)) (by rfl))
        (pss_cons (ps_for PassesOwn.never rfl (pi_list (pe_cl H_l_way hr (by first | decide | omega) T.g_l_way pass0 (pa_cons (pv 0) (pa_cons (pv 2) pa_nil)))) (pg_name (i := 6) nd rfl (Or.inl rfl))
          (pss_cons (ps_set (i := 7) nd rfl (Or.inl rfl) (pe_op op_sub (pe_op op_add (pe_cl H_l_charged hr (by first | decide | omega) T.g_l_charged pass0 (pa_cons (pv 0) (pa_cons (pv 5) (pa_cons (pv 6) pa_nil)))) (pv 3)) (pe_dget2 hu (pe_dget hu (pv 1) pe_str (fun _ _ => rfl)) (pv 6) (pe_op op_pow pe_int pe_int) ⟨rfl, rfl, rfl, rfl⟩)))
            (pss_one (ps_if (pt_cmpR op_gt (pv 7) pe_int (nomark _)) (pss_cons (ps_set (i := 8) nd rfl (Or.inl rfl) (pe_cl H_l_lost hr (by first | decide | omega) T.g_l_lost pass0 (pa_cons (pv 0) (pa_cons (pv 5) (pa_cons (pe_dget hu (pv 1) pe_str (fun _ _ => rfl)) (pa_cons (pv 6) (pa_cons (pv 7) pa_nil)))))))
                (pss_one (ps_lock (ps_for PassesOwn.never rfl (pi_keys (pv 8)) (pg_name (i := 9) nd rfl (Or.inl rfl))
                  (pss_cons (ps_dput hu (pv 5) (pv 9) (pe_op op_sub (pe_dget hu (pv 5) (pv 9) (fun _ _ => rfl)) (pe_dget hu (pv 8) (pv 9) (fun _ _ => rfl))) rfl)
                    (pss_one (ps_dput hu (pv 4) (pv 9) (pe_op op_add (pe_dget2 hu (pv 4) (pv 9) pe_int ⟨rfl, rfl, rfl, rfl⟩) (pe_dget hu (pv 8) (pv 9) (fun _ _ => rfl))) rfl))))))) pss_nil))))
        (pss_cons (ps_dput hu (pv 5) (pv 2) (pe_op op_add (pe_dget hu (pv 5) (pv 2) (fun _ _ => rfl)) (pv 3)) rfl)
        (pss_one (ps_ret (pv 4)))))), ?_⟩
    intro fd hfd
    obtain ⟨f0, fn⟩ := L.notin hfd
    have e0 : Ex H (upd H fd (.dK [])) := Ex.new hfd
    have L0 := L.to e0
    have h0fd : (upd H fd (.dK [])) fd = some (.dK []) := upd_same
    obtain ⟨H0, hH0⟩ : ∃ H0, H0 = upd H fd (.dK []) := ⟨_, rfl⟩
    rw [← hH0] at e0 L0 h0fd ⊢
    clear hH0
    refine ⟨_, rfl, l.st, _, rfl, L0.gSz, _, _, rfl, ?_⟩
    refine ⟨_, rfl, _, rfl, a, x, c.rs, rfl, L0.Rows, hw, .inr (lvs_nms hxl), fun p H1 hp e1 h1 => ?_⟩
    have L1 := L0.to e1
    have h1' : H1 p = some (.lst ((wayD c.rs x).map V.str)) := h1
    have h1fd := e1 _ _ h0fd
    have npf : p ≠ fd := fun e => by
      rw [e, h1fd] at h1'
      cases h1'
    have nps : p ≠ l.sz := fun e => by
      rw [e, L1.sz] at h1'
      cases h1'
    have stay : ∀ H', Keep [l.sz, fd] H1 H' → SqL K H' p ((wayD c.rs x).map V.str) := fun H' kk => K74.SqL.of' (kk _ _ h1' (by simp [npf, nps]))
    have hlim : ∀ n, n ∈ wayD c.rs x → ∀ z, limF c n = some z → N ≤ z := fun n hn z hz => by
      have h5 := List.find?_eq_none.mp hfind n hn
      unfold limF at hz
      split at hz
      · rename_i hp
        cases hz
        unfold dueB at h5
        rw [decide_eq_true hp, Bool.true_and] at h5
        have := of_decide_eq_false (by simpa using h5 : decide (c.pS n < N) = false)
        omega
      · cases hz
    have tok : ∀ i, TOk c.rs v.S (foldT c.rs (kpF c) (limF c) N v.S ((wayD c.rs x).take i)) := fun i => TOk.fold hw ks L.vok.zero _ fun n hn => hlim n (List.mem_of_mem_take hn)
    have vok : ∀ i, MvOk c { v with S := (foldT c.rs (kpF c) (limF c) N v.S ((wayD c.rs x).take i)).1 } := fun i => ⟨L.vok.nd, L.vok.ls, L.vok.lt, L.vok.ge, L.vok.few, (tok i).pos, (tok i).zero, fun n => by
      have h1 := (tok i).le n
      have h2 := L.vok.small n
      show (foldT c.rs (kpF c) (limF c) N v.S ((wayD c.rs x).take i)).1 n < _
      omega⟩
    refine ⟨p, rfl, ⟨_, K74.SqL.of' h1'⟩, ?_⟩
    refine for_list (K := K) (a := p) (xs := (wayD c.rs x).map V.str) (fun i σ H' => (∃ z6 z7 z8 z9, σ = [some (.ref a), some (.ref l.st), some (.str x), some (.int N), some (.ref fd), some (.ref l.sz), z6, z7, z8, z9]) ∧ Keep [l.sz, fd] H1 H' ∧
        LSq K S0 H' l a c { v with S := (foldT c.rs (kpF c) (limF c) N v.S ((wayD c.rs x).take i)).1 } lp ∧ H' fd = some (.dK (fm (foldT c.rs (kpF c) (limF c) N v.S ((wayD c.rs x).take i)).2.1 (foldT c.rs (kpF c) (limF c) N v.S ((wayD c.rs x).take i)).2.2)))
      ⟨⟨_, _, _, _, rfl⟩, fun _ _ h _ => h, L1, h1fd⟩ (fun i σ H' _ pv => stay H' pv.2.1) (fun i y σ H' hy pv => ?_) (fun σ H' pv => ?_)
    · obtain ⟨⟨z6, z7, z8, z9, rfl⟩, kp, L', hfd'⟩ := pv
      rw [List.getElem?_map] at hy
      obtain ⟨n, hn, rfl⟩ := Option.map_eq_some_iff.mp hy
      have hnm := List.mem_of_getElem? hn
      have et : (wayD c.rs x).take (i + 1) = (wayD c.rs x).take i ++ [n] := by rw [List.take_succ, hn]; rfl
      have tk1 := tok (i + 1)
      have vk1 := vok (i + 1)
      have tki := tok i
      rw [et, foldT_snoc] at tk1 vk1 ⊢
      generalize hst : foldT c.rs (kpF c) (limF c) N v.S ((wayD c.rs x).take i) = st at *
      have hl := hlim n hnm
      refine ⟨_, rfl, _, rfl, _, rfl, a, l.sz, n, c.rs, lvs c.rs, st.1, rfl, L'.Rows, hw.few, hlvz, .inl L'.sz, fun H6 e6 => ?_⟩
      have L6 := L'.to e6
      have k6 := kp.exL e6
      have h6fd := e6 _ _ hfd'
      refine ⟨_, rfl, _, _, rfl, rfl, _, rfl, l.st, _, rfl, L6.gLim, l.lim, rfl, .inl ⟨_, .inl L6.Lim⟩, _, rfl, ?_⟩
      have hc61 : chg c.rs (lvs c.rs) st.1 n ≤ 10 ^ 61 := KSOk.chg_lt hw (tki.ks ks) n
      have hN60 : N < 10 ^ 60 := by
        have h5 := hsm x
        have h6 := L.vok.pos x
        omega
      obtain ⟨ex, hex, hstep⟩ : ∃ ex, ex = chg c.rs (lvs c.rs) st.1 n + N - (if n ∈ c.pn then c.pS n else 10 ^ 64) ∧ stepT c.rs (kpF c) (limF c) N st n = if 0 < ex then (subS st.1 (lostK c.rs (kpF c) st.1 n ex) (lostT c.rs (kpF c) st.1 n ex), addF st.2 (lostK c.rs (kpF c) st.1 n ex) (lostT c.rs (kpF c) st.1 n ex)) else st := by
        refine ⟨_, rfl, ?_⟩
        unfold stepT limF
        by_cases c1 : n ∈ c.pn
        · simp only [if_pos c1]
        · simp only [if_neg c1]
          rw [if_neg (by have : (10 : Int) ^ 61 + 10 ^ 60 < 10 ^ 64 := by decide
                         omega)]
      refine ⟨_, _, rfl, rfl, ⟨by decide, by decide, by decide⟩, _, get_fmO n (.inl L6.Lim), _, (if n ∈ c.pn then c.pS n else 10 ^ 64), rfl, (by split <;> rfl), ?_⟩
      show gName 7 (V.int (chg c.rs (lvs c.rs) st.1 n + N - (if n ∈ c.pn then c.pS n else 10 ^ 64))) [some (.ref a), some (.ref l.st), some (.str x), some (.int N), some (.ref fd), some (.ref l.sz), some (.str n), z7, z8, z9] _ _
      rw [← hex]
      rw [hstep] at tk1 vk1 ⊢
      have hexle : ex ≤ chg c.rs (lvs c.rs) st.1 n := by
        rw [hex]
        split
        · rename_i c1
          have := hl (c.pS n) (by unfold limF; rw [if_pos c1])
          omega
        · have : (10 : Int) ^ 60 < 10 ^ 64 := by decide
          omega
      clear hex hstep
      refine ⟨_, rfl, _, _, rfl, rfl, _, rfl, ?_⟩
      by_cases cc : 0 < ex
      · rw [if_pos cc] at tk1 vk1 ⊢
        refine ifT (decide_eq_true cc) ?_
        refine ⟨_, rfl, _, rfl, _, rfl, l.st, _, rfl, L6.gKp, _, rfl, _, rfl, a, l.sz, l.kp, c.rs, st.1, c.sn, c.sS, n, ex, rfl, L6.lst, Int.le_of_lt cc, hexle, fun d H7 hd e7 h7 => ?_⟩
        have L7 := L6.to e7
        obtain ⟨d0, dn⟩ := L6.notin hd
        have ndf : d ≠ fd := fun e => by
          rw [e, h6fd] at hd
          cases hd
        have nds : d ≠ l.sz := fun e => dn (by rw [e]; simp)
        have nfs : fd ≠ l.sz := fun e => fn (by rw [e]; simp)
        have h7' : H7 d = some (.dK (fm (lostK c.rs (kpF c) st.1 n ex) (lostT c.rs (kpF c) st.1 n ex))) := h7
        have hKnd : (lostK c.rs (kpF c) st.1 n ex).Nodup := (LB_nodup hw).filter _
        have hKl : ∀ m, m ∈ lostK c.rs (kpF c) st.1 n ex → m ∈ lvs c.rs := fun m hm => LB_lvs (lostK_sub hm)
        generalize hKs : lostK c.rs (kpF c) st.1 n ex = Ks at *
        generalize hTf : lostT c.rs (kpF c) st.1 n ex = Tf at *
        have h7fd := e7 _ _ h6fd
        have h7sz : H7 l.sz = some (.dK (fm (lvs c.rs) st.1)) := L7.sz
        refine lock_names h7' (fun j σ H' => (∃ z9, σ = [some (.ref a), some (.ref l.st), some (.str x), some (.int N), some (.ref fd), some (.ref l.sz), some (.str n), some (.int ex), some (.ref d), z9]) ∧ (∃ od, H' d = some (.frz od (.dK (fm Ks Tf)))) ∧ Keep [l.sz, fd, d] H7 H' ∧ H' l.sz = some (.dK (fm (lvs c.rs) (subS st.1 (Ks.take j) Tf))) ∧ H' fd = some (.dK (fm (addF st.2 (Ks.take j) Tf).1 (addF st.2 (Ks.take j) Tf).2)))
          (fun od => ⟨⟨_, rfl⟩, ⟨od, upd_same⟩, (Keep.upd _).mono fun x h => by rw [List.mem_singleton.mp h]; simp, ?_, by rw [upd_ne (Ne.symm ndf), List.take_zero]; exact h7fd⟩) (fun j σ H' pv => pv.2.1) (fun Hl Q q => ⟨_, rfl, q⟩) (fun j m od σ H8 hj hfz pv => ?_) (fun σ H8 pv => ?_)
        · rw [upd_ne (Ne.symm nds), List.take_zero, h7sz]
          rfl
        · obtain ⟨⟨z9, rfl⟩, _, k8, h8s, h8⟩ := pv
          have hmm := List.mem_of_getElem? hj
          have hml := hKl m hmm
          have et2 : Ks.take (j + 1) = Ks.take j ++ [m] := by rw [List.take_succ, hj]; rfl
          have hmt : m ∉ Ks.take j := fun hm => by
            have h9 := List.take_append_drop j Ks
            obtain ⟨hi, he⟩ := List.getElem?_eq_some_iff.mp hj
            rw [List.drop_eq_getElem_cons hi, he] at h9
            rw [← h9] at hKnd
            exact (List.nodup_append.mp hKnd).2.2 m hm m List.mem_cons_self rfl
          have gk : GOk c.rs (addF st.2 (Ks.take j) Tf) := tki.g.add fun m hm => lvs_nms (hKl m (List.mem_of_mem_take hm))
          refine ⟨_, rfl, _, rfl, l.sz, _, rfl, get_fm (.inl h8s) hml, _, rfl, _, rfl, d, _, rfl, get_fm (.inr ⟨od, hfz⟩) hmm, _, _, rfl, rfl, _, rfl, _, rfl, l.sz, _, rfl, DPut.k (k := Sum.inr m) h8s (by rw [fm_len, sizeLine_eq]; omega), ?_⟩
          rw [fm_put hml, subS_snoc st.1 (Ks.take j) Tf hmt, ← et2]
          have h9s : (upd H8 l.sz (.dK (fm (lvs c.rs) (subS st.1 (Ks.take (j + 1)) Tf)))) l.sz = some (.dK (fm (lvs c.rs) (subS st.1 (Ks.take (j + 1)) Tf))) := upd_same
          have h9fz : (upd H8 l.sz (.dK (fm (lvs c.rs) (subS st.1 (Ks.take (j + 1)) Tf)))) d = some (.frz od (.dK (fm Ks Tf))) := by
            rw [upd_ne nds]
            exact hfz
          have h9 : (upd H8 l.sz (.dK (fm (lvs c.rs) (subS st.1 (Ks.take (j + 1)) Tf)))) fd = some (.dK (fm (addF st.2 (Ks.take j) Tf).1 (addF st.2 (Ks.take j) Tf).2)) := by
            rw [upd_ne nfs]
            exact h8
          have k9 : Keep [l.sz, fd, d] H7 (upd H8 l.sz (.dK (fm (lvs c.rs) (subS st.1 (Ks.take (j + 1)) Tf)))) := k8.trans ((Keep.upd _).mono fun x h => by rw [List.mem_singleton.mp h]; simp)
          obtain ⟨H9, hH9⟩ : ∃ H9, H9 = upd H8 l.sz (.dK (fm (lvs c.rs) (subS st.1 (Ks.take (j + 1)) Tf))) := ⟨_, rfl⟩
          rw [← hH9] at h9s h9fz h9 k9 ⊢
          clear hH9
          refine ⟨_, rfl, fd, rfl, .inl ⟨_, .inl h9⟩, _, rfl, _, get_fmO m (.inl h9), _, rfl, _, rfl, d, _, rfl, get_fm (.inr ⟨od, h9fz⟩) hmm, (if m ∈ (addF st.2 (Ks.take j) Tf).1 then (addF st.2 (Ks.take j) Tf).2 m else 0), Tf m, (by split <;> rfl), rfl, _, rfl, _, rfl, fd, _, rfl, DPut.k (k := Sum.inr m) h9 (by rw [fm_len, sizeLine_eq]; have := gk.len hw; omega), ?_⟩
          rw [addOne_dict, ← addF_snoc, ← et2]
          have hf2 : (upd H9 fd (.dK (fm (addF st.2 (Ks.take (j + 1)) Tf).1 (addF st.2 (Ks.take (j + 1)) Tf).2))) d = some (.frz od (.dK (fm Ks Tf))) := by
            rw [upd_ne ndf]
            exact h9fz
          exact ⟨hf2, ⟨_, rfl⟩, ⟨od, hf2⟩, k9.trans ((Keep.upd _).mono fun x h => by rw [List.mem_singleton.mp h]; simp), by rw [upd_ne (Ne.symm nfs)]; exact h9s, upd_same⟩
        · obtain ⟨⟨z9, rfl⟩, _, k8, h8s, h8⟩ := pv
          rw [take_len] at h8 h8s
          have k9 : Keep [l.sz, fd, d] H7 (upd H8 d (.dK (fm Ks Tf))) := k8.trans ((Keep.upd _).mono fun x h => by rw [List.mem_singleton.mp h]; simp)
          refine ⟨⟨_, _, _, _, rfl⟩, fun b o hb hn => k9 b o (e7 b o (k6 b o hb hn)) fun z => ?_, L7.upS (L := [fd, d]) k9 (fun b hb => ?_) ?_ vk1, ?_⟩
          · rcases List.mem_cons.mp z with e | z
            · exact hn (by rw [e]; exact List.mem_cons_self)
            · rcases List.mem_cons.mp z with e | e
              · exact hn (by rw [e]; simp)
              · have := k6 b o hb hn
                rw [List.mem_singleton.mp e, hd] at this
                cases this
          · rcases List.mem_cons.mp hb with e | e
            · rw [e]
              exact ⟨f0, fn⟩
            · rw [List.mem_singleton.mp e]
              exact ⟨d0, dn⟩
          · rw [upd_ne (Ne.symm nds)]
            exact h8s
          · rw [upd_ne (Ne.symm ndf)]
            exact h8
      · rw [if_neg cc]
        exact ifF (decide_eq_false cc) ⟨⟨_, _, _, _, rfl⟩, k6, L6, h6fd⟩
    · obtain ⟨⟨z6, z7, z8, z9, rfl⟩, kp, L', hfd'⟩ := pv
      have tkN := tok ((wayD c.rs x).map V.str).length
      rw [List.length_map, take_len] at L' hfd' tkN
      have eR : foldT c.rs (kpF c) (limF c) N v.S (wayD c.rs x) = takeR c v N x := rfl
      rw [eR] at L' hfd' tkN
      refine ⟨_, rfl, _, rfl, l.sz, _, rfl, get_fm (.inl L'.sz) hxl, _, rfl, _, _, rfl, rfl, _, rfl, _, rfl, l.sz, _, rfl, DPut.k (k := Sum.inr x) L'.sz (by rw [fm_len, sizeLine_eq]; omega), ?_⟩
      rw [fm_put hxl]
      have okT : MvOk c { v with S := takenS c v N x } := L'.vok.size hxl (by have := tkN.pos x; show 0 ≤ (takeR c v N x).1 x + N; omega) (by have h1 := tkN.le x; have h2 := hsm x; show (takeR c v N x).1 x + N < _; omega)
      have nf : fd ≠ l.sz := fun e => fn (by rw [e]; simp)
      refine ⟨_, rfl, k2 fd _ hfd (fun b o hb hn => ?_) (L'.upS (L := []) (Keep.upd _) (fun b hb => by cases hb) upd_same okT) ?_⟩
      · have hn2 : b ≠ l.sz := by simpa using hn
        rw [upd_ne hn2]
        refine kp b o (e1 _ _ (e0 _ _ hb)) fun z => ?_
        rcases List.mem_cons.mp z with e | e
        · exact hn2 e
        · rw [List.mem_singleton.mp e, hfd] at hb
          cases hb
      · rw [upd_ne nf]
        exact hfd'
end
end K74
set_option Elab.async false
set_option linter.all false
set_option maxRecDepth 100000
set_option maxHeartbeats 4000000
namespace K74
open PySem PySem.Spec PyProof.Rows L2
section
variable {P : Program} {w : World} {K : PySem.W.Frag} {mg : Str → Option Value} {base : Heap}
abbrev N_l_started : List Str := ["_law_rows_here", "_law_state", "_law_leaf", "_law_name"]
abbrev P_l_started : List Str := ["_law_rows_here", "_law_state", "_law_leaf"]
theorem sc_l_started : FnScope N_l_started P_l_started (defScope s_l_started) := C8.fnScope_by (by decide +kernel)
theorem b_l_started {K : PySem.W.Frag} {fd : FuncData} (F : FunD K d_l_started.name d_l_started.qual d_l_started.params d_l_started.body d_l_started.scope (d_l_started.dvs K) (d_l_started.kws K) (He.fAd K d_l_started.at_) fd) : L2.Binds K fd P_l_started [] :=
  FunD.bindsN F fun _ _ _ _ _ _ us hl => match us, hl with | [_, _, _], _ => rfl
abbrev N_l_given : List Str := ["_law_rows_here", "_law_state", "_law_leaf", "_law_number"]
abbrev P_l_given : List Str := ["_law_rows_here", "_law_state", "_law_leaf", "_law_number"]
theorem sc_l_given : FnScope N_l_given P_l_given (defScope s_l_given) := C8.fnScope_by (by decide +kernel)
theorem b_l_given {K : PySem.W.Frag} {fd : FuncData} (F : FunD K d_l_given.name d_l_given.qual d_l_given.params d_l_given.body d_l_given.scope (d_l_given.dvs K) (d_l_given.kws K) (He.fAd K d_l_given.at_) fd) : L2.Binds K fd P_l_given [] :=
  FunD.bindsN F fun _ _ _ _ _ _ us hl => match us, hl with | [_, _, _, _], _ => rfl
abbrev N_l_moved : List Str := ["_law_state", "_law_task", "_law_leaf"]
abbrev P_l_moved : List Str := ["_law_state", "_law_task", "_law_leaf"]
theorem sc_l_moved : FnScope N_l_moved P_l_moved (defScope s_l_moved) := C8.fnScope_by (by decide +kernel)
theorem b_l_moved {K : PySem.W.Frag} {fd : FuncData} (F : FunD K d_l_moved.name d_l_moved.qual d_l_moved.params d_l_moved.body d_l_moved.scope (d_l_moved.dvs K) (d_l_moved.kws K) (He.fAd K d_l_moved.at_) fd) : L2.Binds K fd P_l_moved [] :=
  FunD.bindsN F fun _ _ _ _ _ _ us hl => match us, hl with | [_, _, _], _ => rfl
section
variable {K : PySem.W.Frag} {S0 H H' : Hp} {l : LA} {a : Addr} {c : MC} {v : MV} {lp : List (Int × Str)}
theorem lkp_perm {ps qs : List (Int × Str)} (h : ps.Perm qs) (nd : (qs.map (·.1)).Nodup) (t : Int) : lkp ps t = lkp qs t := by
  have nd2 : (ps.map (·.1)).Nodup := (h.map (·.1)).nodup_iff.mpr nd
  cases e : lkp ps t with
  | some x => exact (lkp_of nd (h.subset (lkp_mem e))).symm
  | none =>
    cases e2 : lkp qs t with
    | none => rfl
    | some x => exact absurd (List.mem_map.mpr ⟨_, h.symm.subset (lkp_mem e2), rfl⟩) (lkp_none e)
theorem dropP_perm {ps qs : List (Int × Str)} (h : ps.Perm qs) (t : Int) : (dropP ps t).Perm (dropP qs t) := h.filter _
theorem dropP_keys (ps : List (Int × Str)) (t : Int) : t ∉ (dropP ps t).map (·.1) := fun z => by
  obtain ⟨p, hp, e⟩ := List.mem_map.mp z
  exact of_decide_eq_true (List.mem_filter.mp hp).2 e
theorem setP_none {ps : List (Int × Str)} {t : Int} (h : t ∉ ps.map (·.1)) (y : Str) : setP ps t y = ps ∧ dropP ps t = ps := by
  induction ps with
  | nil => exact ⟨rfl, rfl⟩
  | cons p ps ih =>
    have h1 : p.1 ≠ t := fun e => h (by rw [← e]; simp)
    obtain ⟨h2, h3⟩ := ih fun z => h (by rw [List.map_cons]; exact List.mem_cons_of_mem _ z)
    unfold setP dropP at *
    refine ⟨?_, ?_⟩
    · rw [List.map_cons, if_neg h1, h2]
    · rw [List.filter_cons, h3]
      simp [h1]
theorem setP_perm {ps : List (Int × Str)} {t : Int} (nd : (ps.map (·.1)).Nodup) (h : t ∈ ps.map (·.1)) (y : Str) : (dropP ps t ++ [(t, y)]).Perm (setP ps t y) := by
  induction ps with
  | nil => cases h
  | cons p ps ih =>
    rw [List.map_cons] at nd h
    obtain ⟨n1, n2⟩ := List.nodup_cons.mp nd
    by_cases e : p.1 = t
    · subst e
      obtain ⟨h2, h3⟩ := setP_none n1 y
      have e1 : setP (p :: ps) p.1 y = (p.1, y) :: ps := by
        unfold setP at *
        rw [List.map_cons, if_pos rfl, h2]
      have e2 : dropP (p :: ps) p.1 = ps := by
        unfold dropP at *
        rw [List.filter_cons_of_neg (by simp), h3]
      rw [e1, e2]
      exact List.perm_append_singleton _ _
    · have h2 : t ∈ ps.map (·.1) := (List.mem_cons.mp h).resolve_left fun z => e z.symm
      have e1 : setP (p :: ps) t y = p :: setP ps t y := by
        unfold setP
        rw [List.map_cons, if_neg e]
      have e2 : dropP (p :: ps) t = p :: dropP ps t := by
        unfold dropP
        rw [List.filter_cons]
        simp [e]
      rw [e1, e2]
      exact (ih n2 h2).cons p
theorem LSq.place {ps' : List (Int × Str)} {lp' : List (Int × Str)} (h : LSq K S0 H l a c v lp) (ok : MvOk c { v with ps := ps' }) (hp : lp'.Perm ps') : LSq K S0 (upd H l.pl (.dK (pk lp'))) l a c { v with ps := ps' } lp' :=
  ⟨fun b o hb => by rw [upd_ne fun e => by rw [e, h.npl] at hb; cases hb]; exact h.ex b o hb, h.rows, h.lim, h.kp, h.mo, h.nst, h.npl, h.nsz, h.n1, h.n2, h.n3,
    by rw [upd_ne h.n1]; exact h.st, upd_same, by rw [upd_ne h.n3.symm]; exact h.sz, h.ok, ok, hp⟩
theorem LSq.size {S : Str → Int} (h : LSq K S0 H l a c v lp) (ok : MvOk c { v with S := S }) : LSq K S0 (upd H l.sz (.dK (fm (lvs c.rs) S))) l a c { v with S := S } lp :=
  h.upS (L := []) (Keep.upd _) (fun b hb => by cases hb) upd_same ok
theorem LSq.lk (h : LSq K S0 H l a c v lp) (t : Int) : lkp lp t = lkp v.ps t := lkp_perm h.perm h.vok.nd t
end
def spGiven (K : PySem.W.Frag) : Sp := fun vs H Q _ => ∃ (S0 : Hp) (l : LA) (a : Addr) (c : MC) (v : MV) (lp : List (Int × Str)) (x : Str) (n : Int), vs = [.ref a, .ref l.st, .str x, .int n] ∧ LSq K S0 H l a c v lp ∧ x ∈ lvs c.rs ∧ 0 ≤ n ∧ (v.S x < n → Q (.str "pages") H) ∧
  (n ≤ v.S x → ∀ H', Keep [l.sz] H H' → LSq K S0 H' l a c { v with S := setS v.S x (v.S x - n) } lp → Q .non H')
theorem ok_l_given (T : Tx K mg) : Has P w K mg base CX0 1 d_l_given P_l_given (spGiven K) := by
  refine has0 T _ at_d_l_given sc_l_given (fun fd F => b_l_given F) (fun vs H Q E h => ?_) (fun cdv A outer s H vs Q E hr h => ?_)
  · obtain ⟨S0, l, a, c, v, lp, x, n, rfl, _⟩ := h
    rfl
  · obtain ⟨S0, l, a, c, v, lp, x, n, rfl, L, hx, h0, k1, k2⟩ := h
    have hu := hu_of hr
    have nd := sc_l_given.nd
    refine ⟨_, (pss_cons (ps_if (pt_cmpR op_gt (pv 3) (pe_dget hu (pe_dget hu (pv 1) pe_str (fun _ _ => rfl)) (pv 2) (fun _ _ => rfl)) (nomark _)) (pss_one (ps_ret pe_str)) pss_nil)
        (pss_cons (ps_dput hu (pe_dget hu (pv 1) pe_str (fun _ _ => rfl)) (pv 2) (pe_op op_sub (pe_dget hu (pe_dget hu (pv 1) pe_str (fun _ _ => rfl)) (pv 2) (fun _ _ => rfl)) (pv 3)) rfl)
        (pss_one (ps_ret pe_non)))), ?_⟩
    refine ⟨_, rfl, _, rfl, l.st, _, rfl, L.gSz, _, rfl, l.sz, _, rfl, get_fm (.inl L.sz) hx, _, _, rfl, rfl, _, rfl, ?_⟩
    by_cases cc : v.S x < n
    · exact ifT (decide_eq_true cc) (k1 cc)
    · refine ifF (decide_eq_false cc) ?_
      refine ⟨_, rfl, l.st, _, rfl, L.gSz, _, rfl, l.sz, _, rfl, get_fm (.inl L.sz) hx, _, rfl, _, _, rfl, rfl, _, rfl, l.st, _, rfl, L.gSz, _, rfl, l.sz, _, rfl, DPut.k (k := Sum.inr x) L.sz (by rw [fm_len, sizeLine_eq]; have := lvs_len c.rs; have := L.ok.wf.few; omega), ?_⟩
      rw [fm_put hx]
      exact k2 (by omega) _ (Keep.upd _) (L.size (L.vok.size hx (by omega) (by have := L.vok.small x; omega)))
def mvP (ps : List (Int × Str)) (t : Int) : Option Str → List (Int × Str)
  | some y => setP ps t y
  | none => dropP ps t
def optV : Option Str → V
  | some y => .str y
  | none => .non
def spMoved (K : PySem.W.Frag) : Sp := fun vs H Q _ => ∃ (S0 : Hp) (l : LA) (a : Addr) (c : MC) (v : MV) (lp : List (Int × Str)) (t : Int) (yo : Option Str), vs = [.ref l.st, .int t, optV yo] ∧ LSq K S0 H l a c v lp ∧ (∀ y, yo = some y → y ∈ lvs c.rs) ∧ (lkp v.ps t = none → Q (.str "task") H) ∧
  (∀ x, lkp v.ps t = some x → ∀ H' lp', Keep [l.pl] H H' → LSq K S0 H' l a c { v with ps := mvP v.ps t yo } lp' → Q .non H')
theorem ok_l_moved (T : Tx K mg) : Has P w K mg base CX0 1 d_l_moved P_l_moved (spMoved K) := by
  refine has0 T _ at_d_l_moved sc_l_moved (fun fd F => b_l_moved F) (fun vs H Q E h => ?_) (fun cdv A outer s H vs Q E hr h => ?_)
  · obtain ⟨S0, l, a, c, v, lp, t, yo, rfl, _⟩ := h
    rfl
  · obtain ⟨S0, l, a, c, v, lp, t, yo, rfl, L, hy, k1, k2⟩ := h
    have hu := hu_of hr
    have nd := sc_l_moved.nd
    refine ⟨_, (pss_cons (ps_if (pt_cmp (pc_dnotin hu (pv 1) (pe_dget hu (pv 0) pe_str (fun _ _ => rfl)))) (pss_one (ps_ret pe_str)) pss_nil)
        (pss_cons (ps_expr (pe_dpop1 (pe_dget hu (pv 0) pe_str (fun _ _ => rfl)) (pv 1) ⟨rfl, rfl, rfl, rfl⟩))
        (C8.pss_cut (ps_if (pt_cmpR op_notN (pv 2) pe_non (nomark _)) (pss_one (ps_dput hu (pe_dget hu (pv 0) pe_str (fun _ _ => rfl)) (pv 1) (pv 2) rfl)) pss_nil)
        (pss_one (ps_ret pe_non))))), ?_⟩
    refine ⟨_, rfl, _, rfl, l.st, _, rfl, L.gPl, l.pl, _, rfl, .inl ⟨_, Sum.inl t, .inl L.pl, rfl, rfl⟩, _, rfl, ?_⟩
    rw [pk_val, L.lk]
    cases e : lkp v.ps t with
    | none => exact ifT rfl (k1 e)
    | some x =>
      refine ifF rfl ?_
      have hk := lkp_key e
      refine ⟨_, rfl, l.st, _, rfl, L.gPl, l.pl, rfl, .inl ⟨_, .inl L.pl⟩, _, rfl, _, Sum.inl t, .str x, L.pl, rfl, by rw [pk_val, L.lk, e]; rfl, ?_⟩
      rw [pk_drop]
      have L1 := L.place (L.vok.drop t) (dropP_perm L.perm t)
      have kk1 : Keep [l.pl] H (upd H l.pl (.dK (pk (dropP lp t)))) := Keep.upd _
      cases yo with
      | none =>
        refine ⟨fun σ' H2 => H2 = upd H l.pl (.dK (pk (dropP lp t))), ⟨_, rfl, rfl, _, rfl, ifF rfl rfl⟩, ?_⟩
        rintro σ' H2 rfl
        exact k2 x e _ _ kk1 L1
      | some y =>
        refine ⟨fun σ' H2 => H2 = upd (upd H l.pl (.dK (pk (dropP lp t)))) l.pl (.dK (pk (dropP lp t ++ [(t, y)]))), ⟨_, rfl, rfl, _, rfl, ifT rfl ?_⟩, ?_⟩
        · refine ⟨_, rfl, _, rfl, l.st, _, rfl, L1.gPl, _, rfl, l.pl, _, rfl, DPut.k (k := Sum.inl t) L1.pl (by rw [pk_len, sizeLine_eq]; have := L1.few; omega), ?_⟩
          rw [show optV (some y) = .str y from rfl, pk_putNew (dropP_keys lp t)]
        · rintro σ' H2 rfl
          exact k2 x e _ _ (kk1.trans (Keep.upd _)) (L1.place (ps' := setP v.ps t y) (L.vok.set t (hy y rfl)) (((dropP_perm L.perm t).append_right _).trans (setP_perm L.vok.nd hk y)))
theorem LSq.more {K : PySem.W.Frag} {S0 H : Hp} {l : LA} {a : Addr} {c : MC} {v : MV} {lp : List (Int × Str)} {x : Str} (h : LSq K S0 H l a c v lp) (hx : x ∈ lvs c.rs) (hf : v.ps.length < 1000) : LSq K S0 (upd (upd H l.st (.dK (lF l (v.many + 1)))) l.pl (.dK (pk (lp ++ [(v.many, x)])))) l a c { v with ps := v.ps ++ [(v.many, x)], many := v.many + 1 } (lp ++ [(v.many, x)]) :=
  ⟨fun b o hb => by
      have q1 : b ≠ l.pl := fun e => by rw [e, h.npl] at hb; cases hb
      have q2 : b ≠ l.st := fun e => by rw [e, h.nst] at hb; cases hb
      rw [upd_ne q1, upd_ne q2]
      exact h.ex b o hb, h.rows, h.lim, h.kp, h.mo, h.nst, h.npl, h.nsz, h.n1, h.n2, h.n3,
    by rw [upd_ne h.n1]; exact upd_same, upd_same, by rw [upd_ne h.n3.symm, upd_ne h.n2.symm]; exact h.sz, h.ok, h.vok.more hx hf, h.perm.append_right _⟩
def spStarted (K : PySem.W.Frag) : Sp := fun vs H Q _ => ∃ (S0 : Hp) (l : LA) (a : Addr) (c : MC) (v : MV) (lp : List (Int × Str)) (x : Str), vs = [.ref a, .ref l.st, .str x] ∧ LSq K S0 H l a c v lp ∧ x ∈ lvs c.rs ∧ v.ps.length < 1000 ∧
  (∀ n, (wayU c.rs x).find? (fullB c v) = some n → ∀ t H', Ex H H' → SqT K H' t [.str "room", .str n] → Q (.ref t) H') ∧
  ((wayU c.rs x).find? (fullB c v) = none → ∀ H' lp', Keep [l.st, l.pl] H H' → LSq K S0 H' l a c { v with ps := v.ps ++ [(v.many, x)], many := v.many + 1 } lp' → Q (.int v.many) H')
theorem ok_l_started (T : Tx K mg) : Has P w K mg base CX0 4 d_l_started P_l_started (spStarted K) := by
  have H_l_way : Has P w K mg base CX0 2 d_l_way P_l_way (spWay K) := ok_l_way T
  have H_l_running : Has P w K mg base CX0 3 d_l_running P_l_running (spLRunning K) := ok_l_running T
  refine has0 T _ at_d_l_started sc_l_started (fun fd F => b_l_started F) (fun vs H Q E h => ?_) (fun cdv A outer s H vs Q E hr h => ?_)
  · obtain ⟨S0, l, a, c, v, lp, x, rfl, _⟩ := h
    rfl
  · obtain ⟨S0, l, a, c, v, lp, x, rfl, L, hx, hf, k1, k2⟩ := h
    have hu := hu_of hr
    have hw := L.ok.wf
    have nd := sc_l_started.nd
    refine ⟨_, (pss_cons (ps_for PassesOwn.never rfl (pi_list (pe_revL (pe_cl H_l_way hr (by first | decide | omega) T.g_l_way pass0 (pa_cons (pv 0) (pa_cons (pv 2) pa_nil))))) (pg_name (i := 3) nd rfl (Or.inl rfl))
          (pss_one (ps_if (pt_cmpR op_ge (pe_cl H_l_running hr (by first | decide | omega) T.g_l_running pass0 (pa_cons (pv 0) (pa_cons (pv 1) (pa_cons (pv 3) pa_nil)))) (pe_dget2 hu (pe_dget hu (pv 1) pe_str (fun _ _ => rfl)) (pv 3) (pe_op op_pow pe_int pe_int) ⟨rfl, rfl, rfl, rfl⟩) (nomark _)) (pss_one (ps_ret (pe_tup (pa_cons pe_str (pa_cons (pv 3) pa_nil))))) pss_nil)))
        (pss_cons (ps_dput hu (pv 1) pe_str (pe_op op_add (pe_dget hu (pv 1) pe_str (fun _ _ => rfl)) pe_int) rfl)
        (pss_cons (ps_dput hu (pe_dget hu (pv 1) pe_str (fun _ _ => rfl)) (pe_op op_sub (pe_dget hu (pv 1) pe_str (fun _ _ => rfl)) pe_int) (pv 2) rfl)
        (pss_one (ps_ret (pe_op op_sub (pe_dget hu (pv 1) pe_str (fun _ _ => rfl)) pe_int)))))), ?_⟩
    refine ⟨_, rfl, _, rfl, a, x, c.rs, rfl, L.Rows, hw, .inr (lvs_nms hx), fun p H1 hp e1 h1 => ?_⟩
    have L1 := L.to e1
    have h1' : H1 p = some (.lst ((wayD c.rs x).map V.str)) := h1
    refine ⟨p, _, rfl, K74.SqL.of' h1', fun q hq => ?_⟩
    have er : ((wayD c.rs x).map V.str).reverse = (wayU c.rs x).map V.str := by
      rw [← List.map_reverse, ← wayU_rev, List.reverse_reverse]
    rw [er]
    have e2 : Ex H1 (upd H1 q (.lst ((wayU c.rs x).map V.str))) := Ex.new hq
    have L2 := L1.to e2
    refine ⟨q, rfl, ⟨_, K74.SqL.of' upd_same⟩, ?_⟩
    refine for_list (K := K) (a := q) (xs := (wayU c.rs x).map V.str) (fun i σ H' => (∃ z, σ = [some (.ref a), some (.ref l.st), some (.str x), z]) ∧ Ex (upd H1 q (.lst ((wayU c.rs x).map V.str))) H' ∧ ∀ n, n ∈ (wayU c.rs x).take i → fullB c v n = false)
      ⟨⟨_, rfl⟩, Ex.refl _, fun n hn => by cases hn⟩ (fun i σ H' _ pv => pv.2.1.l (K74.SqL.of' upd_same)) (fun i y σ H' hy pv => ?_) (fun σ H' pv => ?_)
    · obtain ⟨⟨z, rfl⟩, e3, hlo⟩ := pv
      rw [List.getElem?_map] at hy
      obtain ⟨n, hn, rfl⟩ := Option.map_eq_some_iff.mp hy
      obtain ⟨f1, f2⟩ := find_take hn hlo
      have L3 := L2.to e3
      refine ⟨_, rfl, _, rfl, _, rfl, S0, l, a, c, v, lp, n, rfl, L3, fun H4 e4 => ?_⟩
      have L4 := L3.to e4
      have e34 := e3.trans e4
      refine ⟨_, rfl, l.st, _, rfl, L4.gMo, l.mo, rfl, .inl ⟨_, .inl L4.Mo⟩, _, rfl, _, _, rfl, rfl, ⟨by decide, by decide, by decide⟩, _, get_fmO n (.inl L4.Mo), _, (if n ∈ c.tn then c.tS n else 10 ^ 9), rfl, (by split <;> rfl), _, rfl, ?_⟩
      have hrun : runN c.rs v.ps n ≤ 1000 := by
        unfold runN
        have := List.length_filter_le (fun p : Int × Str => decide (InB ("" : Str) (RR c.rs) n p.2)) v.ps
        omega
      have hfb : decide ((if n ∈ c.tn then c.tS n else 10 ^ 9) ≤ runN c.rs v.ps n) = fullB c v n := by
        unfold fullB
        by_cases ct : n ∈ c.tn
        · rw [if_pos ct, decide_eq_true ct, Bool.true_and]
        · rw [if_neg ct, decide_eq_false ct, Bool.false_and]
          exact decide_eq_false (by have : (1000 : Int) < 10 ^ 9 := by decide
                                    omega)
      rw [hfb]
      cases cb : fullB c v n with
      | true =>
        refine ifT rfl ⟨_, rfl, by show 2 ≤ sizeLine; decide, fun t ht => ?_⟩
        exact k1 n (f1 cb) t _ (((e1.trans e2).trans e34).trans (Ex.new ht)) (K74.SqT.of' upd_same)
      | false => exact ifF rfl ⟨⟨_, rfl⟩, e34, f2 cb⟩
    · obtain ⟨⟨z, rfl⟩, e3, hlo⟩ := pv
      rw [List.length_map, take_len] at hlo
      have hnone : (wayU c.rs x).find? (fullB c v) = none := by
        rw [List.find?_eq_none]
        intro n hn
        rw [hlo n hn]
        decide
      have L3 := L2.to e3
      have hnk : v.many ∉ lp.map (·.1) := fun h => by
        obtain ⟨p, hp, e⟩ := List.mem_map.mp h
        have := L.vok.lt p (L.perm.subset hp)
        omega
      refine ⟨_, rfl, l.st, _, rfl, L3.gMany, _, _, rfl, rfl, _, rfl, l.st, _, rfl, DPut.k (k := Sum.inr "many") L3.st (by show 7 < sizeLine; decide), ?_⟩
      rw [lF_put]
      have h4 : (upd H' l.st (.dK (lF l (v.many + 1)))) l.st = some (.dK (lF l (v.many + 1))) := upd_same
      have h4p : (upd H' l.st (.dK (lF l (v.many + 1)))) l.pl = some (.dK (pk lp)) := by
        rw [upd_ne L3.n1.symm]
        exact L3.pl
      have gm : ∀ {H : Hp}, H l.st = some (.dK (lF l (v.many + 1))) → DGet H l.st (.str "many") (some (.int (v.many + 1))) := fun h => .inl ⟨_, Sum.inr "many", .inl h, rfl, (lF_many l _).symm⟩
      have gp : DGet (upd H' l.st (.dK (lF l (v.many + 1)))) l.st (.str "places") (some (.ref l.pl)) := .inl ⟨_, Sum.inr "places", .inl h4, rfl, (lF_pl l _).symm⟩
      have e : v.many + 1 - 1 = v.many := by omega
      refine ⟨_, rfl, _, rfl, l.st, _, rfl, gp, _, rfl, l.st, _, rfl, gm h4, _, _, rfl, rfl, l.pl, _, rfl, DPut.k (k := Sum.inl (v.many + 1 - 1)) h4p (by rw [pk_len, sizeLine_eq]; have := L3.few; omega), ?_⟩
      rw [e, pk_putNew hnk]
      have L5 := L3.more hx hf
      refine ⟨_, rfl, l.st, _, rfl, gm L5.st, _, _, rfl, rfl, ?_⟩
      show Q (.int (v.many + 1 - 1)) _
      rw [e]
      refine k2 hnone _ _ ?_ L5
      exact ((Keep.of ((e1.trans e2).trans e3)).trans ((Keep.upd _).mono fun x h => by rw [List.mem_singleton.mp h]; simp)).trans ((Keep.upd _).mono fun x h => by rw [List.mem_singleton.mp h]; simp)
end
end K74
set_option Elab.async false
set_option linter.all false
set_option maxRecDepth 100000
set_option maxHeartbeats 4000000
namespace K74
open PySem PySem.Spec PyProof.Rows L2
section
variable {P : Program} {w : World} {K : PySem.W.Frag} {mg : Str → Option Value} {base : Heap}
abbrev N_l_taken : List Str := ["_law_rows_here", "_law_state", "_law_task", "_law_number", "_law_due"]
abbrev P_l_taken : List Str := ["_law_rows_here", "_law_state", "_law_task", "_law_number"]
theorem sc_l_taken : FnScope N_l_taken P_l_taken (defScope s_l_taken) := C8.fnScope_by (by decide +kernel)
theorem b_l_taken {K : PySem.W.Frag} {fd : FuncData} (F : FunD K d_l_taken.name d_l_taken.qual d_l_taken.params d_l_taken.body d_l_taken.scope (d_l_taken.dvs K) (d_l_taken.kws K) (He.fAd K d_l_taken.at_) fd) : L2.Binds K fd P_l_taken [] :=
  FunD.bindsN F fun _ _ _ _ _ _ us hl => match us, hl with | [_, _, _, _], _ => rfl
abbrev N_l_back : List Str := ["_law_rows_here", "_law_state", "_law_name", "_law_number", "_law_lost_here", "_law_leaf"]
abbrev P_l_back : List Str := ["_law_rows_here", "_law_state", "_law_name", "_law_number"]
theorem sc_l_back : FnScope N_l_back P_l_back (defScope s_l_back) := C8.fnScope_by (by decide +kernel)
theorem b_l_back {K : PySem.W.Frag} {fd : FuncData} (F : FunD K d_l_back.name d_l_back.qual d_l_back.params d_l_back.body d_l_back.scope (d_l_back.dvs K) (d_l_back.kws K) (He.fAd K d_l_back.at_) fd) : L2.Binds K fd P_l_back [] :=
  FunD.bindsN F fun _ _ _ _ _ _ us hl => match us, hl with | [_, _, _, _], _ => rfl
def spTaken (K : PySem.W.Frag) : Sp := fun vs H Q _ => ∃ (S0 : Hp) (l : LA) (a : Addr) (c : MC) (v : MV) (lp : List (Int × Str)) (t N : Int), vs = [.ref a, .ref l.st, .int t, .int N] ∧ LSq K S0 H l a c v lp ∧ 0 ≤ N ∧ (∀ n, v.S n + N < 10 ^ 60) ∧ (lkp v.ps t = none → Q (.str "task") H) ∧
  (∀ x, lkp v.ps t = some x → (∀ n, (wayD c.rs x).find? (dueB c N) = some n → ∀ p H', Ex H H' → SqT K H' p [.str "room", .str n] → Q (.ref p) H') ∧
    ((wayD c.rs x).find? (dueB c N) = none → ∀ d H', H d = none → Keep [l.sz] H H' → LSq K S0 H' l a c { v with S := takenS c v N x } lp → H' d = some (.dK (fm (takeR c v N x).2.1 (takeR c v N x).2.2)) → Q (.ref d) H'))
theorem ok_l_taken (T : Tx K mg) : Has P w K mg base CX0 7 d_l_taken P_l_taken (spTaken K) := by
  have H_l_due_room : Has P w K mg base CX0 3 d_l_due_room P_l_due_room (spDueRoom K) := ok_l_due_room T
  have H_l_took : Has P w K mg base CX0 6 d_l_took P_l_took (spTook K) := ok_l_took T
  refine has0 T _ at_d_l_taken sc_l_taken (fun fd F => b_l_taken F) (fun vs H Q E h => ?_) (fun cdv A outer s H vs Q E hr h => ?_)
  · obtain ⟨S0, l, a, c, v, lp, t, N, rfl, _⟩ := h
    rfl
  · obtain ⟨S0, l, a, c, v, lp, t, N, rfl, L, h0, hsm, k1, k2⟩ := h
    have hu := hu_of hr
    have nd := sc_l_taken.nd
    refine ⟨_, (pss_cons (ps_if (pt_cmp (pc_dnotin hu (pv 2) (pe_dget hu (pv 1) pe_str (fun _ _ => rfl)))) (pss_one (ps_ret pe_str)) pss_nil)
        (pss_cons (ps_set (i := 4) nd rfl (Or.inl rfl) (pe_cl H_l_due_room hr (by first | decide | omega) T.g_l_due_room pass0 (pa_cons (pv 0) (pa_cons (pv 1) (pa_cons (pe_dget hu (pe_dget hu (pv 1) pe_str (fun _ _ => rfl)) (pv 2) (fun _ _ => rfl)) (pa_cons (pv 3) pa_nil))))))
        (pss_one (ps_ret (pe_ifExp (pt_cmpR op_isN (pv 4) pe_non (nomark _)) (pe_cl H_l_took hr (by first | decide | omega) T.g_l_took pass0 (pa_cons (pv 0) (pa_cons (pv 1) (pa_cons (pe_dget hu (pe_dget hu (pv 1) pe_str (fun _ _ => rfl)) (pv 2) (fun _ _ => rfl)) (pa_cons (pv 3) pa_nil))))) (pe_tup (pa_cons pe_str (pa_cons (pv 4) pa_nil)))))))), ?_⟩
    refine ⟨_, rfl, _, rfl, l.st, _, rfl, L.gPl, l.pl, _, rfl, .inl ⟨_, Sum.inl t, .inl L.pl, rfl, rfl⟩, _, rfl, ?_⟩
    rw [pk_val, L.lk]
    cases e : lkp v.ps t with
    | none => exact ifT rfl (k1 e)
    | some x =>
      refine ifF rfl ?_
      obtain ⟨k3, k4⟩ := k2 x e
      have hx : x ∈ lvs c.rs := L.vok.ls _ (lkp_mem e)
      have gt : ∀ {H'}, LSq K S0 H' l a c v lp → DGet H' l.pl (.int t) (some (.str x)) := fun L' => .inl ⟨_, Sum.inl t, .inl L'.pl, rfl, by rw [pk_val, L'.lk, e]; rfl⟩
      refine ⟨_, rfl, _, rfl, _, rfl, l.st, _, rfl, L.gPl, _, rfl, l.pl, _, rfl, gt L, _, rfl, S0, l, a, c, v, lp, x, N, rfl, L, hx, fun H1 e1 => ?_⟩
      have L1 := L.to e1
      cases hf : (wayD c.rs x).find? (dueB c N) with
      | some n =>
        have ed : dueV c N x = .str n := by
          unfold dueV
          rw [hf]
        rw [ed]
        refine ⟨_, rfl, rfl, _, rfl, ifF rfl ?_⟩
        exact ⟨_, rfl, by show 2 ≤ sizeLine; decide, fun p hp => k3 n hf p _ (e1.trans (Ex.new hp)) (K74.SqT.of' upd_same)⟩
      | none =>
        have ed : dueV c N x = .non := by
          unfold dueV
          rw [hf]
        rw [ed]
        refine ⟨_, rfl, rfl, _, rfl, ifT rfl ?_⟩
        refine ⟨_, rfl, _, rfl, _, rfl, l.st, _, rfl, L1.gPl, _, rfl, l.pl, _, rfl, gt L1, _, rfl, S0, l, a, c, v, lp, x, N, rfl, L1, hx, h0, hsm, hf, fun d H' hd kk L2 h2 => ?_⟩
        exact k4 hf d H' (e1.free hd) (Keep.exR e1 kk) L2 h2
def spBack (K : PySem.W.Frag) : Sp := fun vs H Q _ => ∃ (S0 : Hp) (l : LA) (a : Addr) (c : MC) (v : MV) (lp : List (Int × Str)) (x : Str) (N : Int), vs = [.ref a, .ref l.st, .str x, .int N] ∧ LSq K S0 H l a c v lp ∧ 0 ≤ N ∧ (chg c.rs (lvs c.rs) v.S x < N → ∀ H', Ex H H' → Q (.str "pages") H') ∧
  (N ≤ chg c.rs (lvs c.rs) v.S x → ∀ d H', H d = none → Keep [l.sz] H H' → LSq K S0 H' l a c { v with S := subS v.S (lostK c.rs (kpF c) v.S x N) (lostT c.rs (kpF c) v.S x N) } lp → H' d = some (.dK (fm (lostK c.rs (kpF c) v.S x N) (lostT c.rs (kpF c) v.S x N))) → Q (.ref d) H')
theorem ok_l_back (T : Tx K mg) : Has P w K mg base CX0 6 d_l_back P_l_back (spBack K) := by
  have H_l_charged : Has P w K mg base CX0 2 d_l_charged P_l_charged (spCharged K) := ok_l_charged T
  have H_l_lost : Has P w K mg base CX0 5 d_l_lost P_l_lost (spLost K) := ok_l_lost T
  refine has0 T _ at_d_l_back sc_l_back (fun fd F => b_l_back F) (fun vs H Q E h => ?_) (fun cdv A outer s H vs Q E hr h => ?_)
  · obtain ⟨S0, l, a, c, v, lp, x, N, rfl, _⟩ := h
    rfl
  · obtain ⟨S0, l, a, c, v, lp, x, N, rfl, L, h0, k1, k2⟩ := h
    have hu := hu_of hr
    have hw := L.ok.wf
    have ks := ksok L.ok L.vok
    have hlvz : (lvs c.rs).length ≤ 8 := Nat.le_trans (lvs_len c.rs) hw.few
    have nd := sc_l_back.nd
    refine ⟨_, (pss_cons (ps_if (pt_cmpR op_gt (pv 3) (pe_cl H_l_charged hr (by first | decide | omega) T.g_l_charged pass0 (pa_cons (pv 0) (pa_cons (pe_dget hu (pv 1) pe_str (fun _ _ => rfl)) (pa_cons (pv 2) pa_nil)))) (nomark _)) (pss_one (ps_ret pe_str)) pss_nil)
        (pss_cons (ps_set (i := 4) nd rfl (Or.inl rfl) (pe_cl H_l_lost hr (by first | decide | omega) T.g_l_lost pass0 (pa_cons (pv 0) (pa_cons (pe_dget hu (pv 1) pe_str (fun _ _ => rfl)) (pa_cons (pe_dget hu (pv 1) pe_str (fun _ _ => rfl)) (pa_cons (pv 2) (pa_cons (pv 3) pa_nil)))))))
        (pss_cons (ps_lock (ps_for PassesOwn.never rfl (pi_keys (pv 4)) (pg_name (i := 5) nd rfl (Or.inl rfl))
          (pss_one (ps_dput hu (pe_dget hu (pv 1) pe_str (fun _ _ => rfl)) (pv 5) (pe_op op_sub (pe_dget hu (pe_dget hu (pv 1) pe_str (fun _ _ => rfl)) (pv 5) (fun _ _ => rfl)) (pe_dget hu (pv 4) (pv 5) (fun _ _ => rfl))) rfl))))
        (pss_one (ps_ret (pv 4)))))), ?_⟩
    refine ⟨_, rfl, _, rfl, _, rfl, l.st, _, rfl, L.gSz, _, rfl, a, l.sz, x, c.rs, lvs c.rs, v.S, rfl, L.Rows, hw.few, hlvz, .inl L.sz, fun H1 e1 => ⟨_, _, rfl, rfl, _, rfl, ?_⟩⟩
    have L1 := L.to e1
    by_cases cc : chg c.rs (lvs c.rs) v.S x < N
    · exact ifT (decide_eq_true cc) (k1 cc H1 e1)
    · refine ifF (decide_eq_false cc) ?_
      have hle : N ≤ chg c.rs (lvs c.rs) v.S x := by omega
      refine ⟨_, rfl, _, rfl, l.st, _, rfl, L1.gSz, _, rfl, l.st, _, rfl, L1.gKp, _, rfl, _, rfl, a, l.sz, l.kp, c.rs, v.S, c.sn, c.sS, x, N, rfl, L1.lst, h0, hle, fun d H7 hd e7 h7 => ?_⟩
      have L7 := L1.to e7
      obtain ⟨d0, dn⟩ := L1.notin hd
      have nds : d ≠ l.sz := fun e => dn (by rw [e]; simp)
      have nst : d ≠ l.st := fun e => dn (by rw [e]; simp)
      have h7' : H7 d = some (.dK (fm (lostK c.rs (kpF c) v.S x N) (lostT c.rs (kpF c) v.S x N))) := h7
      have hKnd : (lostK c.rs (kpF c) v.S x N).Nodup := (LB_nodup hw).filter _
      have hKl : ∀ m, m ∈ lostK c.rs (kpF c) v.S x N → m ∈ lvs c.rs := fun m hm => LB_lvs (lostK_sub hm)
      have okS : MvOk c { v with S := subS v.S (lostK c.rs (kpF c) v.S x N) (lostT c.rs (kpF c) v.S x N) } := L.vok.sub L.ok ks h0 hle
      have k2 := k2 hle
      generalize hKs : lostK c.rs (kpF c) v.S x N = Ks at *
      generalize hTf : lostT c.rs (kpF c) v.S x N = Tf at *
      refine lock_names h7' (fun j σ H' => (∃ z5, σ = [some (.ref a), some (.ref l.st), some (.str x), some (.int N), some (.ref d), z5]) ∧ (∃ od, H' d = some (.frz od (.dK (fm Ks Tf)))) ∧ Keep [l.sz, d] H7 H' ∧ H' l.sz = some (.dK (fm (lvs c.rs) (subS v.S (Ks.take j) Tf))))
        (fun od => ⟨⟨_, rfl⟩, ⟨od, upd_same⟩, (Keep.upd _).mono fun x h => by rw [List.mem_singleton.mp h]; simp, ?_⟩) (fun j σ H' pv => pv.2.1) (fun Hl Q q => ⟨_, rfl, q⟩) (fun j m od σ H8 hj hfz pv => ?_) (fun σ H8 pv => ?_)
      · rw [upd_ne (Ne.symm nds), List.take_zero, L7.sz]
        rfl
      · obtain ⟨⟨z5, rfl⟩, _, k8, h8s⟩ := pv
        have hmm := List.mem_of_getElem? hj
        have hml := hKl m hmm
        have et2 : Ks.take (j + 1) = Ks.take j ++ [m] := by rw [List.take_succ, hj]; rfl
        have hmt : m ∉ Ks.take j := fun hm => by
          have h9 := List.take_append_drop j Ks
          obtain ⟨hi, he⟩ := List.getElem?_eq_some_iff.mp hj
          rw [List.drop_eq_getElem_cons hi, he] at h9
          rw [← h9] at hKnd
          exact (List.nodup_append.mp hKnd).2.2 m hm m List.mem_cons_self rfl
        have h8t : H8 l.st = some (.dK (lF l v.many)) := k8 _ _ L7.st (by simp [L.n2, nst.symm])
        have gs : DGet H8 l.st (.str "sizes") (some (.ref l.sz)) := .inl ⟨_, Sum.inr "sizes", .inl h8t, rfl, (lF_sz l v.many).symm⟩
        refine ⟨_, rfl, l.st, _, rfl, gs, _, rfl, l.sz, _, rfl, get_fm (.inl h8s) hml, _, rfl, _, rfl, d, _, rfl, get_fm (.inr ⟨od, hfz⟩) hmm, _, _, rfl, rfl, _, rfl, l.st, _, rfl, gs, _, rfl, l.sz, _, rfl, DPut.k (k := Sum.inr m) h8s (by rw [fm_len, sizeLine_eq]; omega), ?_⟩
        rw [fm_put hml, subS_snoc v.S (Ks.take j) Tf hmt, ← et2]
        have hf2 : (upd H8 l.sz (.dK (fm (lvs c.rs) (subS v.S (Ks.take (j + 1)) Tf)))) d = some (.frz od (.dK (fm Ks Tf))) := by
          rw [upd_ne nds]
          exact hfz
        exact ⟨hf2, ⟨_, rfl⟩, ⟨od, hf2⟩, k8.trans ((Keep.upd _).mono fun x h => by rw [List.mem_singleton.mp h]; simp), upd_same⟩
      · obtain ⟨⟨z5, rfl⟩, _, k8, h8s⟩ := pv
        rw [take_len] at h8s
        have k9 : Keep [l.sz, d] H7 (upd H8 d (.dK (fm Ks Tf))) := k8.trans ((Keep.upd _).mono fun x h => by rw [List.mem_singleton.mp h]; simp)
        refine ⟨_, rfl, k2 d _ (e1.free hd) (fun b o hb hn => k9 b o (e7 b o (e1 b o hb)) fun z => ?_) (L7.upS (L := [d]) k9 (fun b hb => ?_) ?_ okS) upd_same⟩
        · rcases List.mem_cons.mp z with e | e
          · exact hn (by rw [e]; exact List.mem_cons_self)
          · have := e1 b o hb
            rw [List.mem_singleton.mp e, hd] at this
            cases this
        · rw [List.mem_singleton.mp hb]
          exact ⟨d0, dn⟩
        · rw [upd_ne (Ne.symm nds)]
          exact h8s
end
end K74
set_option Elab.async false
set_option linter.all false
set_option maxRecDepth 100000
set_option maxHeartbeats 4000000
/-! isinstance of a held error, with or without fields of its own. -/
namespace K74
open PySem PySem.Spec PyProof.Rows L2
def HasD (d : Option Addr) (H : Hp) : Prop := d = none ∨ ∃ (dd : Addr) (fs : List (Str × V)), d = some dd ∧ H dd = some (.xd fs)
def rErr1 (K : PySem.W.Frag) (D a : Addr) (d : Option Addr) : List V → Hp → VK → Prop := fun xs H Q => HasD d H ∧ ∃ (c : V) (u : Value) (b : Bool), xs = [.ref a, c] ∧ ClsV c u ∧ PySem.W.kitOne K (.ref D) u = some b ∧ Q (.bl b) H
def rErrT (K : PySem.W.Frag) (D a : Addr) (d : Option Addr) : List V → Hp → VK → Prop := fun xs H Q => HasD d H ∧ ∃ (tp : Addr) (cs : List V) (us : List Value) (b : Bool), xs = [.ref a, .ref tp] ∧ H tp = some (.tup cs) ∧ Paired ClsV cs us ∧ PySem.W.kitAny K (.ref D) us = some b ∧ Q (.bl b) H
section
variable {X : Cx} {a D : Addr} {d : Option Addr} {oe : Obj} {pn : List (Addr × Obj)}
theorem err_kit {pins : List (Addr × Obj)} {σ : L2.St} {H : Hp} {s : Shared} (C : ExcC X.K D) (hz : Zc (.ref D) d oe) (hf : ∃ vs, oe.data = .fields vs) (I : Inv (X.suite a ((a, oe) :: pn)) pins σ H s) (hd : HasD d H) :
    ∃ P : Heap → Prop, PySem.W.KitX X.K (.ref a) (.ref D) P ∧ P s.heap := by
  obtain ⟨hget, _⟩ := I.pin (a, oe) (List.mem_append_left _ List.mem_cons_self)
  obtain ⟨vs, hv⟩ := hf
  have hcl : (PySem.W.clsIn X.K D).isSome = true := by
    obtain ⟨cd, hc, _⟩ := PySem.W.any_some C.hd
    rw [hc]
    rfl
  have hnc : PySem.W.notCls oe = true := by
    unfold PySem.W.notCls
    rw [hv]
  have Z : ∀ od, PySem.W.KitX X.K (.ref a) (.ref D) (fun h => PySem.W.InstAt h a oe D od) := fun od => PySem.W.kitx_exc hcl C.hg C.hk C.hs C.ha C.hn C.ht C.hm
  rcases hd with rfl | ⟨dd, fs, rfl, hx⟩
  · refine ⟨_, Z none, hget, hz.1, hnc, ?_⟩
    rw [hz.2]
    trivial
  · obtain ⟨mA, hns, hr⟩ := (show ObjOk X.prog X.w H s.heap dd (.xd fs) from I.hok dd _ hx)
    obtain ⟨od, ho, hl⟩ := lookIn_ns hns
    refine ⟨_, Z (some od), hget, hz.1, hnc, ?_⟩
    rw [hz.2]
    exact ho
theorem call_err1 (C : ExcC X.K D) (hz : Zc (.ref D) d oe) (hf : ∃ vs, oe.data = .fields vs) : CallR (X.suite a ((a, oe) :: pn)) (.builtin "isinstance") (rErr1 X.K D a d) := by
  intro pins s σ H xs us Q I r h
  obtain ⟨hd, c, u, b, rfl, k, e, q⟩ := h
  obtain ⟨u1, u2, rfl, r1, r2⟩ := vals2 r
  have e2 := k.eq r2
  subst e2
  cases (show u1 = Value.ref a from r1)
  obtain ⟨P, Z, p⟩ := err_kit C hz hf I hd
  exact PySem.W.kia_one Z I.kIn p e (fun z => nomatch z) fun tk => ⟨.bl b, H, I.tok tk, rfl, q⟩
theorem call_errT (C : ExcC X.K D) (hz : Zc (.ref D) d oe) (hf : ∃ vs, oe.data = .fields vs) : CallR (X.suite a ((a, oe) :: pn)) (.builtin "isinstance") (rErrT X.K D a d) := by
  intro pins s σ H xs us Q I r h
  obtain ⟨hd, tp, cs, ws, b, rfl, hT, k, e, q⟩ := h
  obtain ⟨u1, u2, rfl, r1, r2⟩ := vals2 r
  cases (show u2 = Value.ref tp from r2)
  cases (show u1 = Value.ref a from r1)
  obtain ⟨P, Z, p⟩ := err_kit C hz hf I hd
  obtain ⟨_, its, rv, o, h1, h2, n, h3⟩ := (show ObjOk X.prog X.w H s.heap tp (.tup cs) from I.hok tp _ hT)
  have e3 := ClsV.all k rv
  subst e3
  obtain ⟨oc, od, dt, sl⟩ := o
  simp only at h2 h3
  subst h2 h3
  exact PySem.W.kia_tup Z I.kIn p h1 e (fun z => nomatch z) fun tk => ⟨.bl b, H, I.tok tk, rfl, q⟩
end
/-! list.count of flat values -/
section
variable {X : Cx}
def rCntV (K : PySem.W.Frag) : V → List V → Hp → VK → Prop := fun x xs H Q => ∃ (p : Addr) (ys : List V) (y : V), x = .ref p ∧ xs = [y] ∧ SqL K H p ys ∧ flatV y = true ∧ ys.all flatV = true ∧ Q (.int (ys.countP fun z => eqV z y : Nat)) H
theorem count_vals {y : V} : ∀ {ys : List V} {its : List Value}, Vals ys its → ys.all flatV = true → its.countP (eqU y) = ys.countP fun z => eqV z y
  | _, _, .nil, _ => rfl
  | z :: zs, w :: ws, .cons r rs, f => by
    obtain ⟨f1, f2⟩ := Bool.and_eq_true_iff.mp (show (flatV z && zs.all flatV) = true from f)
    rw [List.countP_cons, List.countP_cons, eqU_of r f1, count_vals rs f2]
theorem mt_cntV : MtR X "list.count" (rCntV X.K) := by
  intro pins s σ H x xs v us Q I rx rxs h
  obtain ⟨p, ys, y, rfl, rfl, hs, fy, fys, q⟩ := h
  cases rx
  obtain ⟨u, rfl, ru⟩ := rxs.one
  obtain ⟨its, rv, pl, hlen⟩ := I.list hs
  obtain ⟨⟨cls, dd, data, sl⟩, n, ho, hc, hdn, hd⟩ := pl
  simp only at hc hd
  subst hc
  subst hd
  have go := SeqAt.list_countAt p its.toArray n dd sl u (eqU y)
  have ec : its.toArray.toList.countP (eqU y) = ys.countP fun z => eqV z y := count_vals rv fys
  refine call_meets PySem.F.slot_list_count ⟨_, ho, rfl⟩ PySem.F.entry_list_count (PySem.F.args_list_count_2 _ _) go ⟨ho, fun w hw => mem_eqAt ru fy rv fys w (by simpa using hw), ?_⟩
  rw [ec]
  exact ⟨.int (ys.countP fun z => eqV z y : Nat), H, I.tok _, ⟨s.toks, rfl⟩, q⟩
end
end K74
set_option Elab.async false
set_option linter.all false
set_option maxRecDepth 100000
set_option maxHeartbeats 4000000
namespace K74
open PySem PySem.Spec PyProof.Rows L2
section
variable {P : Program} {w : World} {K : PySem.W.Frag} {mg : Str → Option Value} {base : Heap}
abbrev N_l_said : List Str := ["_law_ask", "e", "_law_marks"]
abbrev P_l_said : List Str := ["_law_ask"]
theorem sc_l_said : FnScope N_l_said P_l_said (defScope s_l_said) := C8.fnScope_by (by decide +kernel)
theorem b_l_said {K : PySem.W.Frag} {fd : FuncData} (F : FunD K d_l_said.name d_l_said.qual d_l_said.params d_l_said.body d_l_said.scope (d_l_said.dvs K) (d_l_said.kws K) (He.fAd K d_l_said.at_) fd) : L2.Binds K fd P_l_said [] :=
  FunD.bindsN F fun _ _ _ _ _ _ us hl => match us, hl with | [_], _ => rfl
/-- what the suite asks of an error's class -/
structure ErrF (K : PySem.W.Frag) (D : Addr) (b1 b2 b3 : Bool) : Prop where
  C : ExcC K D
  kV : PySem.W.kitOne K (.ref D) (.type "ValueError") = some true
  n1 : PySem.W.kitOne K (.ref D) (.ref (He.ga K "NoLeaf")) = some false
  n2 : PySem.W.kitOne K (.ref D) (.ref (He.ga K "NoLimit")) = some false
  n3 : PySem.W.kitOne K (.ref D) (.ref (He.ga K "NoName")) = some false
  m1 : PySem.W.kitOne K (.ref D) (.ref (He.ga K "NoRoom")) = some b1
  m2 : PySem.W.kitOne K (.ref D) (.ref (He.ga K "NoPages")) = some b2
  m3 : PySem.W.kitOne K (.ref D) (.ref (He.ga K "NoTask")) = some b3
theorem Tx.errs (T : Tx K mg) : ErrF K (He.ga K "NoRoom") true false false ∧ ErrF K (He.ga K "NoPages") false true false ∧ ErrF K (He.ga K "NoTask") false false true ∧
    PySem.K74R.roomB K (He.ga K "NoRoom") (He.ma K (He.ga K "NoRoom") "__init__") (Rw.prog.main.file : PySem.Str) = true ∧ PySem.W.typeIn K (.ref (He.ga K "NoRoom")) = some (.type "type") := by
  have h := T.ext
  unfold exL at h
  obtain ⟨_, h⟩ := ba h
  obtain ⟨r, h⟩ := ba h
  obtain ⟨p, h⟩ := ba h
  obtain ⟨t, h⟩ := ba h
  obtain ⟨r1, h⟩ := ba h
  obtain ⟨r2, h⟩ := ba h
  obtain ⟨r3, h⟩ := ba h
  obtain ⟨r4, h⟩ := ba h
  obtain ⟨r5, h⟩ := ba h
  obtain ⟨p1, h⟩ := ba h
  obtain ⟨p2, h⟩ := ba h
  obtain ⟨p3, h⟩ := ba h
  obtain ⟨p4, h⟩ := ba h
  obtain ⟨p5, h⟩ := ba h
  obtain ⟨t1, h⟩ := ba h
  obtain ⟨t2, h⟩ := ba h
  obtain ⟨t3, h⟩ := ba h
  obtain ⟨t4, h⟩ := ba h
  obtain ⟨t5, h⟩ := ba h
  obtain ⟨h1, h2⟩ := ba h
  obtain ⟨rC, rO, rV⟩ := exc_of r
  obtain ⟨pC, pO, pV⟩ := exc_of p
  obtain ⟨tC, tO, tV⟩ := exc_of t
  exact ⟨⟨rC, rV, kit_of r1, kit_of r2, kit_of r3, rO, kit_of r4, kit_of r5⟩, ⟨pC, pV, kit_of p1, kit_of p2, kit_of p3, kit_of p4, pO, kit_of p5⟩, ⟨tC, tV, kit_of t1, kit_of t2, kit_of t3, kit_of t4, kit_of t5, tO⟩, h1, of_decide_eq_true h2⟩
theorem Tx.xr (T : Tx K mg) : XfC K (He.ga K "NoRoom") := ⟨T.errs.1.C.hg, T.errs.1.C.hk, T.errs.1.C.hs, T.errs.1.C.hd⟩
theorem Tx.roomN (T : Tx K mg) : PySem.W.findIn K (.ref (He.ga K "NoRoom")) "name" = some none := (PySem.K74R.roomT_of T.errs.2.2.2.1).noN
section
variable {X : Cx} {a : Addr} {cls : Value} {d : Option Addr} {oe : Obj} {pn : List (Addr × Obj)}
theorem call_errX1 (K : PySem.W.Frag) (h : X.K = K) (hz : Zc cls d oe) (hf : ∃ vs, oe.data = .fields vs) : CallR (X.suite a ((a, oe) :: pn)) (.builtin "isinstance") (fun xs H Q => ∃ D, cls = .ref D ∧ ExcC K D ∧ rErr1 K D a d xs H Q) := by
  subst h
  intro pins s σ H xs us Q I r hh
  obtain ⟨D, rfl, C, hq⟩ := hh
  exact call_err1 C hz hf pins s σ H xs us Q I r hq
theorem call_errXT (K : PySem.W.Frag) (h : X.K = K) (hz : Zc cls d oe) (hf : ∃ vs, oe.data = .fields vs) : CallR (X.suite a ((a, oe) :: pn)) (.builtin "isinstance") (fun xs H Q => ∃ D, cls = .ref D ∧ ExcC K D ∧ rErrT K D a d xs H Q) := by
  subst h
  intro pins s σ H xs us Q I r hh
  obtain ⟨D, rfl, C, hq⟩ := hh
  exact call_errT C hz hf pins s σ H xs us Q I r hq
end
/-- what is wished of an error of the call -/
def Esaid (K : PySem.W.Frag) (Q : VK) : XK := fun cls d H' => (∃ (dd : Addr) (n : Str), cls = cNR K ∧ d = some dd ∧ H' dd = some (.xd [(("name" : Str), .str n)]) ∧ ∀ t H2, Ex H' H2 → SqT K H2 t [.str "room", .str n] → Q (.ref t) H2) ∨
    (cls = cNP K ∧ d = none ∧ ∀ H2, Ex H' H2 → Q (.str "pages") H2) ∨ (cls = cNT K ∧ d = none ∧ ∀ H2, Ex H' H2 → Q (.str "task") H2)
/-- what the call of the asker may end with -/
def TTsaid (K : PySem.W.Frag) : (XK → Hp → VK → Prop) → Hp → VK → Prop := fun tl H Q => tl (Esaid K Q) H Q
def saidS : List Stmt := match d_l_said.body with
  | [.Try _ [.ExceptHandler _ _ b _] _ _ _] => b
  | _ => []
def isE (K : PySem.W.Frag) (a : Addr) (cls : Value) (d : Option Addr) (c : TE) : TE :=
  tCB (fun xs H Q => ∃ D, cls = Value.ref D ∧ ExcC K D ∧ rErr1 K D a d xs H Q) (tCons (tVar 1) (tCons c tNil))
def saidT (K : PySem.W.Frag) (a : Addr) (cls : Value) (d : Option Addr) : TS :=
  tSeq (tIfS (tOr (tB (tCB (fun xs H Q => ∃ D, cls = Value.ref D ∧ ExcC K D ∧ rErrT K D a d xs H Q) (tCons (tVar 1) (tCons (tTup (tCons (tC (V.ref (He.ga K "NoLeaf"))) (tCons (tC (V.ref (He.ga K "NoLimit"))) (tCons (tC (V.ref (He.ga K "NoName"))) tNil)))) tNil)))) (tNot (tB (isE K a cls d (tC (V.ty "ValueError")))))) (tRet (tC (V.str "other"))) tNext)
  (tSeq (tAsg (tLst (tCons (isE K a cls d (tC (V.ref (He.ga K "NoRoom")))) (tCons (isE K a cls d (tC (V.ref (He.ga K "NoPages")))) (tCons (isE K a cls d (tC (V.ref (He.ga K "NoTask")))) tNil)))) (gName 2))
  (tSeq (tIfS (tTest (tOp rNe (tBM K "list" (rCntV K) (tVar 2) (tCons (tC (V.bl true)) tNil)) (tC (V.int 1)))) (tRet (tC (V.str "other"))) tNext)
  (tRet (tIf (tB (tOp (rIxL K) (tVar 2) (tC (V.int 0)))) (tTup (tCons (tC (V.str "room")) (tCons (tXf a cls d (He.ga K "NoRoom") "name" (tVar 1)) tNil)))
    (tOp (rIxL K) (tLst (tCons (tC (V.str "pages")) (tCons (tC (V.str "task")) tNil))) (tOp (rI0 fun i j => V.int (i - j)) (tBM K "list" (rIndex K) (tVar 2) (tCons (tC (V.bl true)) tNil)) (tC (V.int 1))))))))
theorem said_suite {X : Cx} (T : Tx X.K X.mg) (cdv : Value) (XR : XfC X.K (He.ga X.K "NoRoom")) (noN : PySem.W.findIn X.K (.ref (He.ga X.K "NoRoom")) "name" = some none) (s : Shared) (H : Hp) (a : Addr) (oe : Obj) (cls : Value) (d : Option Addr) (pn : List (Addr × Obj)) (hz : Zc cls d oe) (hf : ∃ vs, oe.data = .fields vs) :
    PSs (Cx.suite (cxOf C8.CX0 X.prog X.w X.K X.mg X.base N_l_said "_law_said" (defScope s_l_said) (He.fAd X.K d_l_said.at_) cdv X.A X.stack s H C8.E0).nox a ((a, oe) :: pn)) saidS (saidT X.K a cls d) := by
  have nd := sc_l_said.nd
  exact (pss_cons (ps_if (PW.pt (pw_or (pt_val (pe_callB (call_errXT (X := (cxOf C8.CX0 X.prog X.w X.K X.mg X.base N_l_said "_law_said" (defScope s_l_said) (He.fAd X.K d_l_said.at_) cdv X.A X.stack s H C8.E0).nox) (a := a) (pn := pn) X.K rfl hz hf) (by rfl) T.z_isinstance (by decide +kernel) (pa_cons (pv 1) (pa_cons (pe_tup (pa_cons (pe_glob (v := .ref (He.ga X.K "NoLeaf")) (by rfl) T.g_NoLeaf rfl) (pa_cons (pe_glob (v := .ref (He.ga X.K "NoLimit")) (by rfl) T.g_NoLimit rfl) (pa_cons (pe_glob (v := .ref (He.ga X.K "NoName")) (by rfl) T.g_NoName rfl) pa_nil)))) pa_nil)))) (pw_or1 (pt_not (pt_val (pe_callB (call_errX1 (X := (cxOf C8.CX0 X.prog X.w X.K X.mg X.base N_l_said "_law_said" (defScope s_l_said) (He.fAd X.K d_l_said.at_) cdv X.A X.stack s H C8.E0).nox) (a := a) (pn := pn) X.K rfl hz hf) (by rfl) T.z_isinstance (by decide +kernel) (pa_cons (pv 1) (pa_cons (pe_bltn (v := .ty "ValueError") (by rfl) T.z_ValueError (by decide +kernel) rfl) pa_nil)))))))) (pss_one (ps_ret pe_str)) pss_nil)
        (pss_cons (ps_set (i := 2) nd rfl (Or.inl rfl) (pe_lst (pa_cons (pe_callB (call_errX1 (X := (cxOf C8.CX0 X.prog X.w X.K X.mg X.base N_l_said "_law_said" (defScope s_l_said) (He.fAd X.K d_l_said.at_) cdv X.A X.stack s H C8.E0).nox) (a := a) (pn := pn) X.K rfl hz hf) (by rfl) T.z_isinstance (by decide +kernel) (pa_cons (pv 1) (pa_cons (pe_glob (v := .ref (He.ga X.K "NoRoom")) (by rfl) T.g_NoRoom rfl) pa_nil))) (pa_cons (pe_callB (call_errX1 (X := (cxOf C8.CX0 X.prog X.w X.K X.mg X.base N_l_said "_law_said" (defScope s_l_said) (He.fAd X.K d_l_said.at_) cdv X.A X.stack s H C8.E0).nox) (a := a) (pn := pn) X.K rfl hz hf) (by rfl) T.z_isinstance (by decide +kernel) (pa_cons (pv 1) (pa_cons (pe_glob (v := .ref (He.ga X.K "NoPages")) (by rfl) T.g_NoPages rfl) pa_nil))) (pa_cons (pe_callB (call_errX1 (X := (cxOf C8.CX0 X.prog X.w X.K X.mg X.base N_l_said "_law_said" (defScope s_l_said) (He.fAd X.K d_l_said.at_) cdv X.A X.stack s H C8.E0).nox) (a := a) (pn := pn) X.K rfl hz hf) (by rfl) T.z_isinstance (by decide +kernel) (pa_cons (pv 1) (pa_cons (pe_glob (v := .ref (He.ga X.K "NoTask")) (by rfl) T.g_NoTask rfl) pa_nil))) pa_nil)))))
        (pss_cons (ps_if (pt_cmpR op_ne (pe_bm PySem.F.plainAttrs_list PySem.F.slot_list_count PySem.F.type_list_count mt_cntV (pv 2) (pa_cons pe_bl pa_nil)) pe_int (nomark _)) (pss_one (ps_ret pe_str)) pss_nil)
        (pss_one (ps_ret (pe_ifExp (pt_val (pe_ix (ixL X.K (by rfl)) (pv 2) pe_int (fun _ _ => rfl))) (pe_tup (pa_cons pe_str (pa_cons (pe_xf XR noN hz hf (pv 1)) pa_nil))) (pe_ix (ixL X.K (by rfl)) (pe_lst (pa_cons pe_str (pa_cons pe_str pa_nil))) (pe_op op_sub (pe_bm PySem.F.plainAttrs_list PySem.F.slot_list_index PySem.F.type_list_index mt_index (pv 2) (pa_cons pe_bl pa_nil)) pe_int) (fun _ _ => rfl))))))))
theorem takes_len {X : Cx} {W : WX} (t : Takes X W) : Takes X (fun c d σ H => σ.length = X.N.length → W c d σ H) := fun u s' x => by
  obtain ⟨a, B, sI, pins, σ, H, cls, d, e, I, nb, up, sky, na, os, ag, h⟩ := x
  exact t u s' ⟨a, B, sI, pins, σ, H, cls, d, e, I, nb, up, sky, na, os, ag, h I.len⟩
theorem HasD.ex {d : Option Addr} {H H' : Hp} (e : Ex H H') (h : HasD d H) : HasD d H' := h.imp id fun ⟨dd, fs, h1, h2⟩ => ⟨dd, fs, h1, e _ _ h2⟩
theorem kitAny3 {t x y z : Value} (h1 : PySem.W.kitOne K t x = some false) (h2 : PySem.W.kitOne K t y = some false) (h3 : PySem.W.kitOne K t z = some false) : PySem.W.kitAny K t [x, y, z] = some false := by
  simp only [PySem.W.kitAny, h1, h2, h3]
abbrev saidR (K : PySem.W.Frag) (a : Addr) (cls : Value) (d : Option Addr) : TS := tRet (tIf (tB (tOp (rIxL K) (tVar 2) (tC (V.int 0)))) (tTup (tCons (tC (V.str "room")) (tCons (tXf a cls d (He.ga K "NoRoom") "name" (tVar 1)) tNil)))
    (tOp (rIxL K) (tLst (tCons (tC (V.str "pages")) (tCons (tC (V.str "task")) tNil))) (tOp (rI0 fun i j => V.int (i - j)) (tBM K "list" (rIndex K) (tVar 2) (tCons (tC (V.bl true)) tNil)) (tC (V.int 1)))))
theorem said_read {D a : Addr} {d : Option Addr} {H : Hp} {x0 x2 : Option V} {De : Ends} {b1 b2 b3 : Bool} (F : ErrF K D b1 b2 b3) (hone : [V.bl b1, .bl b2, .bl b3].countP (fun z => eqV z (.bl true)) = 1) (hd : HasD d H)
    (fin : ∀ l H2, Ex H H2 → H2 l = some (.lst [.bl b1, .bl b2, .bl b3]) → saidR K a (.ref D) d De [x0, some (.ref a), some (.ref l)] H2) :
    saidT K a (.ref D) d De [x0, some (.ref a), x2] H := by
  obtain ⟨C, kV, n1, n2, n3, m1, m2, m3⟩ := F
  have own : ∀ {x : Str} {b : Bool}, PySem.W.kitOne K (.ref D) (.ref (He.ga K x)) = some b → ∀ {H' : Hp} {Q : VK}, HasD d H' → Q (.bl b) H' → isE K a (.ref D) d (tC (V.ref (He.ga K x))) [x0, some (.ref a), x2] H' Q := fun hk H' Q hd' q =>
    ⟨_, rfl, D, rfl, C, hd', _, _, _, rfl, .own _, hk, q⟩
  refine ⟨_, rfl, by show 3 ≤ sizeLine; decide, fun tp htp => ⟨D, rfl, C, hd.ex (Ex.new htp), tp, _, [.ref (He.ga K "NoLeaf"), .ref (He.ga K "NoLimit"), .ref (He.ga K "NoName")], false, rfl, upd_same, .cons (.own _) (.cons (.own _) (.cons (.own _) .nil)), kitAny3 n1 n2 n3, ?_⟩⟩
  have e1 := Ex.new (o := .tup [V.ref (He.ga K "NoLeaf"), .ref (He.ga K "NoLimit"), .ref (He.ga K "NoName")]) htp
  have hd1 := hd.ex e1
  refine ⟨false, rfl, ifF rfl ?_⟩
  refine ⟨_, rfl, D, rfl, C, hd1, V.ty "ValueError", Value.type "ValueError", true, rfl, .ty _, kV, ?_⟩
  refine ⟨true, rfl, ifF rfl ?_⟩
  refine own m1 hd1 (own m2 hd1 (own m3 hd1 ⟨by show 3 ≤ sizeLine; decide, fun l hl => ?_⟩))
  have e2 := e1.trans (Ex.new (o := .lst [V.bl b1, .bl b2, .bl b3]) hl)
  refine ⟨_, rfl, .inl ⟨rfl, _, K74.SqL.of' upd_same⟩, l, _, .bl true, rfl, rfl, K74.SqL.of' upd_same, rfl, rfl, ?_⟩
  rw [hone]
  exact ⟨rfl, _, rfl, ifF (by simp) (fin l _ e2 upd_same)⟩
theorem said_gives {X : Cx} (T : Tx K mg) (hP : X.prog = P) (hw : X.w = w) (hK : X.K = K) (hm : X.mg = mg) (hb : X.base = base) (cdv : Value) (q : Str) :
    LamX.GivesTo X N_l_said "_law_said" (defScope s_l_said) (He.fAd K d_l_said.at_) cdv d_l_said.body "_law_ask" q (TTsaid K) := by
  subst hP hw hK hm hb
  intro f c' s H Q tl act hc h
  have nd := sc_l_said.nd
  have XR := T.xr
  have noN := T.roomN
  obtain ⟨fR, fP, fT, _⟩ := T.errs
  refine ⟨_, (pss_one (ps_try_as (X := (cxOf C8.CX0 X.prog X.w X.K X.mg X.base N_l_said "_law_said" (defScope s_l_said) (He.fAd X.K d_l_said.at_) cdv X.A X.stack s H C8.E0).nox) (i := 1) (ts := saidT X.K) rfl rfl nd rfl rfl ⟨(by rfl), by decide, .inl T.g_GroupError⟩ takes0 (tb := fun W D σ H => ∃ Ech : XK, (∀ cls d (σ' : L2.St) H', σ'.length = 3 → Ech cls d H' → W cls d σ' H') ∧ σ[0]? = some (some (V.ref f)) ∧ H c' = some (LamX.CodeO c' q) ∧ tl Ech H D.rt) (fun W pn xe tk _ => ?_) (fun a oe cls d pn hz hf => said_suite T cdv XR noN s H a oe cls d pn hz hf))), ?_⟩
  · refine ⟨fun pins s' σ H' D I h' => ?_⟩
    obtain ⟨Ech, hW, h1, h2, h3⟩ := h'
    exact (pss_one (ps_ret (act (fun cls d σ' H' => σ'.length = 3 → W cls d σ' H') pn xe Ech _ _ (takes_len tk) fun cls d σ' H' he hl => hW cls d σ' H' hl he))).run pins s' σ H' D I ⟨h1, h2, h3⟩
  · refine ⟨_, ?_, rfl, hc, h⟩
    intro cls d σ' H' hl he
    obtain ⟨x0, x1, x2, rfl⟩ : ∃ x0 x1 x2, σ' = [x0, x1, x2] := match σ', hl with
      | [x, y, z], _ => ⟨x, y, z, rfl⟩
    rcases he with ⟨dd, n, rfl, rfl, hdd, q⟩ | ⟨rfl, rfl, q⟩ | ⟨rfl, rfl, q⟩
    · refine ⟨true, T.x_NoRoom_GroupError, fun _ a ha => ?_, fun z => by cases z⟩
      refine said_read fR rfl (.inr ⟨dd, _, rfl, hdd⟩) (fun l H2 e2 h2 => ?_)
      exact ⟨_, rfl, l, _, 0, .bl true, rfl, rfl, K74.SqL.of' h2, rfl, true, rfl, ifT rfl ⟨_, rfl, rfl, rfl, dd, _, .str n, rfl, e2 _ _ hdd, rfl, by show 2 ≤ sizeLine; decide, fun p hp => q p _ (e2.trans (Ex.new hp)) (K74.SqT.of' upd_same)⟩⟩
    · refine ⟨true, T.x_NoPages_GroupError, fun _ a ha => ?_, fun z => by cases z⟩
      refine said_read fP rfl (.inl rfl) (fun l H2 e2 h2 => ?_)
      refine ⟨_, rfl, l, _, 0, .bl false, rfl, rfl, K74.SqL.of' h2, rfl, false, rfl, ifF rfl ⟨by show 2 ≤ sizeLine; decide, fun p hp => ?_⟩⟩
      have h3 := Ex.new (o := .lst [V.str "pages", .str "task"]) hp _ _ h2
      refine ⟨_, rfl, .inl ⟨rfl, _, K74.SqL.of' h3⟩, l, _, .bl true, 1, .bl true, rfl, rfl, K74.SqL.of' h3, rfl, rfl, rfl, rfl, fun m z' hm hz => ?_, _, _, rfl, rfl, p, _, _, _, rfl, rfl, K74.SqL.of' upd_same, rfl, q _ (e2.trans (Ex.new hp))⟩
      match m, hm, hz with
      | 0, _, hz => cases hz; rfl
    · refine ⟨true, T.x_NoTask_GroupError, fun _ a ha => ?_, fun z => by cases z⟩
      refine said_read fT rfl (.inl rfl) (fun l H2 e2 h2 => ?_)
      refine ⟨_, rfl, l, _, 0, .bl false, rfl, rfl, K74.SqL.of' h2, rfl, false, rfl, ifF rfl ⟨by show 2 ≤ sizeLine; decide, fun p hp => ?_⟩⟩
      have h3 := Ex.new (o := .lst [V.str "pages", .str "task"]) hp _ _ h2
      refine ⟨_, rfl, .inl ⟨rfl, _, K74.SqL.of' h3⟩, l, _, .bl true, 2, .bl true, rfl, rfl, K74.SqL.of' h3, rfl, rfl, rfl, rfl, fun m z' hm hz => ?_, _, _, rfl, rfl, p, _, _, _, rfl, rfl, K74.SqL.of' upd_same, rfl, q _ (e2.trans (Ex.new hp))⟩
      match m, hm, hz with
      | 0, _, hz => cases hz; rfl
      | 1, _, hz => cases hz; rfl
end
end K74
set_option Elab.async false
set_option linter.all false
set_option maxRecDepth 100000
set_option maxHeartbeats 4000000
namespace K74
open PySem PySem.Spec PyProof.Rows L2
section
variable {P : Program} {w : World} {K : PySem.W.Frag} {mg : Str → Option Value} {base : Heap}
/-! A call of a lambda; what a step keeps. -/
theorem opEqU {X : Cx} (K : PySem.W.Frag) (h : X.K = K) (hu : X.A.units + 64 < cLine) : OpR X (compareOp .Eq) (fun x y H Q => rEqD K x y H Q ∨ rEqV K x y H Q) := by
  subst h
  intro pins s σ H x y v u Q I rx ry h
  rcases h with h | h
  · exact op_eqD hu pins s σ H x y v u Q I rx ry h
  · exact op_eqV hu pins s σ H x y v u Q I rx ry h
theorem pe_said {X : Cx} {c Pt : Addr} {params : Arguments} {body : PySem.Expr} {scope : Scope} {t : XK → TE} {p lpos pos : Pos} (T : Tx X.K X.mg) (hg : Gl X "_law_said") (TB : LamX.TabB X.base X.mg c Pt) (hcode : X.env.code = .ref c) (hr : Room 25 X.A) (L : LamX.LamS X.env.scope scope) (hdef : defaultsOf params X.env = ([], []))
    (hbind : ∀ (q : Str) (cl : List (Str × Addr)) (pm cv ctv : Value), bindArgs (PySem.W.kla_fn "<lambda>" q params body scope cl pm cv ctv) ⟨[], []⟩ = pure [])
    (hbody : ∀ (A : Around) (outer : List Env) (s : Shared) (H : Hp) (E : XK) (f c' : Addr), Room 23 (A.deeper (LamX.lamEnv X scope s.heap.objs.size f c')) → PE (LamX.lamCx X A outer s H E scope f c') body (t E)) :
    PE X (.Call (.Name "_law_said" p) [.Lambda params body scope lpos] [] pos) (LamX.tLam [(Pt, X.env.qual ++ "<lambda>")] (TTsaid X.K) t) := by
  obtain ⟨fd, F⟩ := T.says.def_ _ at_d_l_said
  obtain ⟨oc, od, dV, kV, doc, pm, an, cdv, ct, osl, rfl, lk, hcd, _, _⟩ := F.ex
  exact LamX.pe_lamcall (Ng := N_l_said) hg T.g_l_said F.kp lk hcd (b_l_said F) sc_l_said rfl (by first | exact Or.inl rfl | exact Or.inr (Or.inl rfl)) (said_gives T rfl rfl rfl rfl rfl cdv _) TB hcode (by simp) (fun p hp _ => by rw [List.mem_singleton.mp hp]) hr L hdef hbind hbody
theorem pe_mk {X : Cx} {k j : Nat} {d : He.DefD} {ps : List Str} {sp : Sp} {x : Str} {C : Addr} {p pos : Pos} {e : PySem.Expr} {es : List PySem.Expr} {t : TA} (M : Mk X.K C (He.fAd X.K d.at_)) (c : Has X.prog X.w X.K X.mg X.base CX0 k d ps sp) (hr : Room j X.A) (hk : k + 1 ≤ j) (hm : X.mg x = some (.ref C)) (ha : PA X (e :: es) t) (hg : Gl X x := by rfl)
    (hdb : (x == ("__debug__" : Str)) = false := by decide) (he : starEach (e :: es) X.env = (false, eval e X.env) :: starEach es X.env := by rfl) (hpl : (backTo pos (starEach es X.env)).any (·.1) = false := by rfl) :
    PE X (.Call (.Name x p) (e :: es) [] pos) (tMake C sp [] E0 t) := by
  obtain ⟨fd, F, b, kp⟩ := c
  exact pe_make M F (hr.mono hk) hg hm b .nil pass0 ha hdb he hpl
/-! ### what a step keeps -/
/-- no table stands in S0 -/
def NoT (S0 : Hp) : Prop := ∀ b ps, S0 b ≠ some (.tbl ps)
/-- all but the tables and the objects at L stay -/
def KeepN (L : List Addr) (H H' : Hp) : Prop := ∀ b o, H b = some o → b ∉ L → (∀ ps, o ≠ .tbl ps) → H' b = some o
section
variable {K : PySem.W.Frag} {S0 H H1 H' : Hp} {a : MA} {l : LA} {pr : Addr} {c : MC} {v : MV} {lp : List (Int × Str)} {L M : List Addr}
theorem KeepN.of (k : Keep L H H') : KeepN L H H' := fun b o h n _ => k b o h n
theorem KeepN.ofN (k : LamX.ExtN H H') : KeepN L H H' := fun b o h _ t => k b o h t
theorem KeepN.trans (k : KeepN L H H1) (j : KeepN L H1 H') : KeepN L H H' := fun b o h n t => j b o (k b o h n t) n t
theorem KeepN.mono (k : KeepN L H H') (h : ∀ x, x ∈ L → x ∈ M) : KeepN M H H' := fun b o e n t => k b o e (fun z => n (h b z)) t
theorem MSt.keepN (h : MSt K S0 H a c v) (nt : NoT S0) (k : KeepN L H H') (hL : ∀ b, b ∈ L → S0 b = none ∧ b ∉ mutA a) : MSt K S0 H' a c v :=
  ⟨fun b o hb => k b o (h.ex b o hb) (fun z => by rw [(hL b z).1] at hb; cases hb) fun ps e => nt b ps (by rw [hb, e]), h.tree, h.mt, h.mp, h.sf, h.nme, h.npl, h.nsz, h.ne, k _ _ h.me (fun z => (hL _ z).2 (by simp)) (fun _ e => by cases e), k _ _ h.pl (fun z => (hL _ z).2 (by simp)) (fun _ e => by cases e), k _ _ h.sz (fun z => (hL _ z).2 (by simp)) (fun _ e => by cases e), h.ok, h.vok⟩
theorem LSq.keepN (h : LSq K S0 H l pr c v lp) (nt : NoT S0) (k : KeepN L H H') (hL : ∀ b, b ∈ L → S0 b = none ∧ b ∉ mutL l) : LSq K S0 H' l pr c v lp :=
  ⟨fun b o hb => k b o (h.ex b o hb) (fun z => by rw [(hL b z).1] at hb; cases hb) fun ps e => nt b ps (by rw [hb, e]), h.rows, h.lim, h.kp, h.mo, h.nst, h.npl, h.nsz, h.n1, h.n2, h.n3, k _ _ h.st (fun z => (hL _ z).2 (by simp)) (fun _ e => by cases e), k _ _ h.pl (fun z => (hL _ z).2 (by simp)) (fun _ e => by cases e), k _ _ h.sz (fun z => (hL _ z).2 (by simp)) (fun _ e => by cases e), h.ok, h.vok, h.perm⟩
theorem SrcAt.keepN {b : Addr} (h : SrcAt H b) (k : KeepN L H H') (hb : b ∉ L) : SrcAt H' b := by
  obtain ⟨x, y, z, e⟩ := h
  exact ⟨x, y, z, k _ _ e hb fun _ e => by cases e⟩
/-- what stands at L is neither a table nor a code object -/
def Solid (H : Hp) (L : List Addr) : Prop := ∀ b, b ∈ L → (∀ ps, H b ≠ some (.tbl ps)) ∧ ∀ q, H b ≠ some (LamX.CodeO b q)
theorem tabs_keep {T : List (Addr × Str)} (t : LamX.Tabs T H) (k : Keep L H H') (s : Solid H L) : LamX.Tabs T H' := fun p hp => by
  obtain ⟨ps, h1, h2, h3⟩ := t p hp
  refine ⟨ps, k _ _ h1 fun z => (s _ z).1 _ h1, h2, fun pos cv hc => ?_⟩
  obtain ⟨c, e1, e2⟩ := h3 pos cv hc
  exact ⟨c, e1, k _ _ e2 fun z => (s _ z).2 _ e2⟩
end
/-- a machine and the law's own of it, apart from one another -/
structure One (K : PySem.W.Frag) (S0 H : Hp) (pr : Addr) (a : MA) (l : LA) (c : MC) (v : MV) (lp : List (Int × Str)) : Prop where
  m : MSt K S0 H a c v
  q : LSq K S0 H l pr c v lp
  ap : ∀ b, b ∈ mutA a → b ∉ mutL l
abbrev mutO (a : MA) (l : LA) : List Addr := mutA a ++ mutL l
structure StepIn (K : PySem.W.Frag) (Tb : List (Addr × Str)) (S0 H : Hp) (src pr : Addr) (a : MA) (l : LA) (c : MC) (v : MV) (lp : List (Int × Str)) : Prop where
  one : One K S0 H pr a l c v lp
  hs : SrcAt H src
  tab : LamX.Tabs Tb H
  nt : NoT S0
  ns : S0 src = none
  nsm : src ∉ mutO a l
section
variable {K : PySem.W.Frag} {Tb : List (Addr × Str)} {S0 H H' : Hp} {src pr : Addr} {a : MA} {l : LA} {c : MC} {v v' : MV} {lp lp' : List (Int × Str)} {L : List Addr}
theorem One.free0 (h : One K S0 H pr a l c v lp) : ∀ b, b ∈ mutO a l → S0 b = none := fun b hb => by
  simp only [List.mem_append, List.mem_cons, List.mem_nil_iff, or_false] at hb
  rcases hb with (e | e | e) | e | e | e
  · rw [e]; exact h.m.nme
  · rw [e]; exact h.m.npl
  · rw [e]; exact h.m.nsz
  · rw [e]; exact h.q.nst
  · rw [e]; exact h.q.npl
  · rw [e]; exact h.q.nsz
theorem One.solid (h : One K S0 H pr a l c v lp) : Solid H (mutO a l) := fun b hb => by
  have key : ∀ o, H b = some o → (∀ ps, o ≠ .tbl ps) → (∀ q, o ≠ LamX.CodeO b q) → (∀ ps, H b ≠ some (.tbl ps)) ∧ ∀ q, H b ≠ some (LamX.CodeO b q) := fun o ho h1 h2 => ⟨fun ps e => h1 ps (Option.some.inj (ho.symm.trans e)), fun q e => h2 q (Option.some.inj (ho.symm.trans e))⟩
  simp only [List.mem_append, List.mem_cons, List.mem_nil_iff, or_false] at hb
  rcases hb with (e | e | e) | e | e | e
  · exact key _ (by rw [e]; exact h.m.me) (fun _ z => by cases z) fun _ z => by unfold LamX.CodeO at z; cases z
  · exact key _ (by rw [e]; exact h.m.pl) (fun _ z => by cases z) fun _ z => by unfold LamX.CodeO at z; cases z
  · exact key _ (by rw [e]; exact h.m.sz) (fun _ z => by cases z) fun _ z => by unfold LamX.CodeO at z; cases z
  · exact key _ (by rw [e]; exact h.q.st) (fun _ z => by cases z) fun _ z => by unfold LamX.CodeO at z; cases z
  · exact key _ (by rw [e]; exact h.q.pl) (fun _ z => by cases z) fun _ z => by unfold LamX.CodeO at z; cases z
  · exact key _ (by rw [e]; exact h.q.sz) (fun _ z => by cases z) fun _ z => by unfold LamX.CodeO at z; cases z
theorem One.keepN (h : One K S0 H pr a l c v lp) (nt : NoT S0) (k : KeepN L H H') (hL : ∀ b, b ∈ L → S0 b = none ∧ b ∉ mutO a l) : One K S0 H' pr a l c v lp :=
  ⟨h.m.keepN nt k fun b hb => ⟨(hL b hb).1, fun z => (hL b hb).2 (List.mem_append_left _ z)⟩, h.q.keepN nt k fun b hb => ⟨(hL b hb).1, fun z => (hL b hb).2 (List.mem_append_right _ z)⟩, h.ap⟩
theorem One.to (h : One K S0 H pr a l c v lp) (e : Ex H H') : One K S0 H' pr a l c v lp := ⟨h.m.to e, h.q.to e, h.ap⟩
theorem src_solid (h : SrcAt H src) : Solid H [src] := fun b hb => by
  rw [List.mem_singleton.mp hb]
  obtain ⟨x, y, z, e⟩ := h
  rw [e]
  exact ⟨fun _ z => (by cases z), fun _ z => (by unfold LamX.CodeO at z; cases z)⟩
/-- a lambda is made -/
theorem StepIn.lam (h : StepIn K Tb S0 H src pr a l c v lp) (k : LamX.ExtN H H') (t : LamX.Tabs Tb H') : StepIn K Tb S0 H' src pr a l c v lp :=
  ⟨h.one.keepN (L := []) h.nt (KeepN.ofN k) (fun b hb => by cases hb), h.hs.keepN (L := []) (KeepN.ofN k) (fun z => by cases z), t, h.nt, h.ns, h.nsm⟩
theorem StepIn.to (h : StepIn K Tb S0 H src pr a l c v lp) (e : Ex H H') : StepIn K Tb S0 H' src pr a l c v lp :=
  ⟨h.one.to e, h.hs.keepN (L := []) (KeepN.of (Keep.of e)) (fun z => by cases z), h.tab.ext e, h.nt, h.ns, h.nsm⟩
/-- a draw -/
theorem StepIn.draw (h : StepIn K Tb S0 H src pr a l c v lp) (k : Keep [src] H H') (s : SrcAt H' src) : StepIn K Tb S0 H' src pr a l c v lp :=
  ⟨h.one.keepN h.nt (KeepN.of k) fun b hb => by rw [List.mem_singleton.mp hb]; exact ⟨h.ns, h.nsm⟩, s, tabs_keep h.tab k (src_solid h.hs), h.nt, h.ns, h.nsm⟩
/-- the machine's own change -/
theorem StepIn.mach (h : StepIn K Tb S0 H src pr a l c v lp) (k : Keep (mutA a) H H') (m : MSt K S0 H' a c v') : LSq K S0 H' l pr c v lp ∧ SrcAt H' src ∧ LamX.Tabs Tb H' :=
  ⟨h.one.q.keepN h.nt (KeepN.of k) fun b hb => ⟨h.one.free0 b (List.mem_append_left _ hb), h.one.ap b hb⟩, h.hs.keepN (KeepN.of k) fun z => h.nsm (List.mem_append_left _ z), tabs_keep h.tab k fun b hb => h.one.solid b (List.mem_append_left _ hb)⟩
/-- the law's own change -/
theorem mk_step (h : StepIn K Tb S0 H src pr a l c v lp) {H1 : Hp} (m : MSt K S0 H1 a c v') (s : SrcAt H1 src) (t : LamX.Tabs Tb H1) (k : Keep L H1 H') (hL : ∀ b, b ∈ L → b ∈ mutL l) (so : Solid H1 L) (q : LSq K S0 H' l pr c v' lp') : StepIn K Tb S0 H' src pr a l c v' lp' :=
  ⟨⟨m.keepN h.nt (KeepN.of k) fun b hb => ⟨h.one.free0 b (List.mem_append_right _ (hL b hb)), fun z => h.one.ap b z (hL b hb)⟩, q, h.one.ap⟩, s.keepN (KeepN.of k) fun z => h.nsm (List.mem_append_right _ (hL _ z)), tabs_keep t k so, h.nt, h.ns, h.nsm⟩
end
theorem LSq.solid {K : PySem.W.Frag} {S0 H : Hp} {l : LA} {pr : Addr} {c : MC} {v : MV} {lp : List (Int × Str)} (h : LSq K S0 H l pr c v lp) : Solid H (mutL l) := fun b hb => by
  have key : ∀ o, H b = some o → (∀ ps, o ≠ .tbl ps) → (∀ q, o ≠ LamX.CodeO b q) → (∀ ps, H b ≠ some (.tbl ps)) ∧ ∀ q, H b ≠ some (LamX.CodeO b q) := fun o ho h1 h2 => ⟨fun ps e => h1 ps (Option.some.inj (ho.symm.trans e)), fun q e => h2 q (Option.some.inj (ho.symm.trans e))⟩
  simp only [List.mem_cons, List.mem_nil_iff, or_false] at hb
  rcases hb with e | e | e
  · exact key _ (by rw [e]; exact h.st) (fun _ z => by cases z) fun _ z => by unfold LamX.CodeO at z; cases z
  · exact key _ (by rw [e]; exact h.pl) (fun _ z => by cases z) fun _ z => by unfold LamX.CodeO at z; cases z
  · exact key _ (by rw [e]; exact h.sz) (fun _ z => by cases z) fun _ z => by unfold LamX.CodeO at z; cases z
theorem taken_le {c : MC} {v : MV} {N : Int} {x : Str} (ok : McOk c) (vok : MvOk c v) (h0 : 0 ≤ N) (hn : (wayD c.rs x).find? (dueB c N) = none) (n : Str) : takenS c v N x n ≤ v.S n + N := by
  have t := TOk.fold (S := v.S) ok.wf (ksok ok vok) (lim := limF c) (N := N) vok.zero (wayD c.rs x) (fun m hm l hl => by
    have h1 := List.find?_eq_none.mp hn m hm
    unfold limF at hl
    unfold dueB at h1
    split at hl
    · rename_i cm
      cases hl
      simp [cm] at h1
      omega
    · cases hl)
  have h1 := t.le n
  have h2 := t.le x
  unfold takenS setS takeR
  split
  · rename_i e
    rw [e]
    omega
  · omega
theorem sub_le (rs : List RowD) (kp S : Str → Int) (y : Str) (N : Int) (n : Str) : subS S (lostK rs kp S y N) (lostT rs kp S y N) n ≤ S n := by
  unfold subS
  split
  · rename_i h
    have := of_decide_eq_true (List.mem_filter.mp h).2
    omega
  · exact Int.le_refl _
/-! equal values -/
section
variable {K : PySem.W.Frag} {H : Hp} {Q : VK}
theorem eqU_int (i : Int) (q : Q (.bl true) H) : rEqD K (.int i) (.int i) H Q := ⟨_, _, .int i, .int i, rfl, rfl, by simp only [PyData.eqv]; rw [show (i == i) = true from beq_self_eq_true i]; exact q⟩
theorem eqU_non (q : Q (.bl true) H) : rEqD K .non .non H Q := ⟨_, _, .non, .non, rfl, rfl, q⟩
theorem eqU_str {x : Str} (hx : PyData.strOk x = true) (q : Q (.bl true) H) : rEqD K (.str x) (.str x) H Q := ⟨_, _, .str x, .str x, by
    show (PyData.canLay0 (.str x) && decide (PyData.depth (.str x) ≤ 64)) = true
    rw [Bool.and_eq_true]
    exact ⟨by simpa only [PyData.canLay0] using hx, by simp [PyData.depth]⟩, by
    show (PyData.canLay0 (.str x) && decide (PyData.depth (.str x) ≤ 64)) = true
    rw [Bool.and_eq_true]
    exact ⟨by simpa only [PyData.canLay0] using hx, by simp [PyData.depth]⟩, by simp only [PyData.eqv]; rw [show (x == x) = true from beq_self_eq_true x]; exact q⟩
theorem shaped_two {x y : Str} (hx : PyData.strOk x = true) (hy : PyData.strOk y = true) : SeqAt.shaped (.tuple [.str x, .str y]) = true := by
  show (PyData.canLay0 (.tuple [.str x, .str y]) && decide (PyData.depth (.tuple [.str x, .str y]) ≤ 64)) = true
  rw [Bool.and_eq_true]
  exact ⟨by simp [PyData.canLay0, PyData.canLayAll0, hx, hy], by simp [PyData.depth, PyData.depthAll]⟩
theorem eqU_room {s t : Addr} {x y : Str} (hx : PyData.strOk x = true) (hy : PyData.strOk y = true) (hs : SqT K H s [.str x, .str y]) (ht : SqT K H t [.str x, .str y]) (q : Q (.bl true) H) : rEqD K (.ref s) (.ref t) H Q :=
  ⟨_, _, .tup hs (.cons (.str _) (.cons (.str _) .nil)), .tup ht (.cons (.str _) (.cons (.str _) .nil)), shaped_two hx hy, shaped_two hx hy, by
    rw [show PyData.eqv (.tuple [.str x, .str y]) (.tuple [.str x, .str y]) = true from by simp [PyData.eqv, PyData.eqvAll]]
    exact q⟩
theorem eqR_fm {s t : Addr} {fs : List Str} {F : Str → Int} (n : Nat) (hs : H s = some (.dK (fm fs F))) (ht : H t = some (.dK (fm fs F))) : EqR K H (EqV K H (n + 1)) (.ref s) (.ref t) :=
  .inr ⟨s, t, _, _, rfl, rfl, hs, ht, rfl, fun p hp => by
    obtain ⟨y, hy, rfl⟩ := List.mem_map.mp hp
    exact ⟨_, fm_get hy, .inl ⟨rfl, rfl⟩⟩⟩
theorem eqU_fm {s t : Addr} {fs : List Str} {F : Str → Int} (hs : H s = some (.dK (fm fs F))) (ht : H t = some (.dK (fm fs F))) (q : Q (.bl true) H) : rEqV K (.ref s) (.ref t) H Q := ⟨1, by decide, eqR_fm 0 hs ht, q⟩
end
theorem StepIn.put {K : PySem.W.Frag} {Tb : List (Addr × Str)} {S0 H : Hp} {src pr d : Addr} {a : MA} {l : LA} {c : MC} {v : MV} {lp : List (Int × Str)} {kvs : List (Key × V)} (h : StepIn K Tb S0 H src pr a l c v lp) (hd : H d = some (.dK kvs)) (h0 : S0 d = none) (h1 : d ∉ mutO a l) (o : HO) : StepIn K Tb S0 (upd H d o) src pr a l c v lp := by
  have k : Keep [d] H (upd H d o) := Keep.upd o
  have ds : src ≠ d := fun e => by
    obtain ⟨x, y, z, q⟩ := h.hs
    rw [e, hd] at q
    cases q
  exact ⟨h.one.keepN h.nt (KeepN.of k) fun b hb => by rw [List.mem_singleton.mp hb]; exact ⟨h0, h1⟩, h.hs.keepN (KeepN.of k) (by simpa using ds), tabs_keep h.tab k fun b hb => by
    rw [List.mem_singleton.mp hb, hd]
    exact ⟨fun _ z => (by cases z), fun _ z => (by unfold LamX.CodeO at z; cases z)⟩, h.nt, h.ns, h.nsm⟩
theorem StepIn.fresh {K : PySem.W.Frag} {Tb : List (Addr × Str)} {S0 H : Hp} {src pr d : Addr} {a : MA} {l : LA} {c : MC} {v : MV} {lp : List (Int × Str)} (h : StepIn K Tb S0 H src pr a l c v lp) (hd : H d = none) : S0 d = none ∧ d ∉ mutO a l := by
  obtain ⟨x1, x2⟩ := h.one.q.notin hd
  refine ⟨x1, fun z => ?_⟩
  rcases List.mem_append.mp z with z | z
  · have h2 := h.one.m.me
    have h3 := h.one.m.pl
    have h4 := h.one.m.sz
    simp only [List.mem_cons, List.mem_nil_iff, or_false] at z
    rcases z with z | z | z <;> simp_all
  · exact x2 z
end
end K74
set_option Elab.async false
set_option linter.all false
set_option maxRecDepth 100000
set_option maxHeartbeats 4000000
namespace K74
open PySem PySem.Spec PyProof.Rows L2
section
variable {P : Program} {w : World} {K : PySem.W.Frag} {mg : Str → Option Value} {base : Heap}
abbrev N_l_step_right : List Str := ["_law_source_here", "_law_machine", "_law_rows_here", "_law_state", "_law_leaves_here", "_law_way_here", "_law_leaf", "_law_task", "_law_names", "_law_number", "_law_told", "_law_is_right", "_law_name", "_law_row"]
abbrev P_l_step_right : List Str := ["_law_source_here", "_law_machine", "_law_rows_here", "_law_state"]
theorem sc_l_step_right : FnScope N_l_step_right P_l_step_right (defScope s_l_step_right) := C8.fnScope_by (by decide +kernel)
theorem b_l_step_right {K : PySem.W.Frag} {fd : FuncData} (F : FunD K d_l_step_right.name d_l_step_right.qual d_l_step_right.params d_l_step_right.body d_l_step_right.scope (d_l_step_right.dvs K) (d_l_step_right.kws K) (He.fAd K d_l_step_right.at_) fd) : L2.Binds K fd P_l_step_right [] :=
  FunD.bindsN F fun _ _ _ _ _ _ us hl => match us, hl with | [_, _, _, _], _ => rfl
/-- a def that lets no error out, its code object told -/
theorem has_c {k : Nat} {d : He.DefD} {N ps : List Str} {sp : Sp} (T : Tx K mg) (i : Nat) (hi : fnL[i]? = some d) (S : FnScope N ps d.scope)
    (hb : ∀ fd, FunD K d.name d.qual d.params d.body d.scope (d.dvs K) (d.kws K) (He.fAd K d.at_) fd → L2.Binds K fd ps []) (len : ∀ vs H Q E, sp vs H Q E → vs.length = ps.length)
    (hbody : ∀ (A : Around) (outer : List Env) (s : Shared) (H : Hp) (vs : List V) (Q : VK) (E : XK), Room k (A.deeper (envOfC d.qual d.scope s.heap.objs.size (He.fAd K d.at_) (.ref (He.cT K d.at_).1))) → sp vs H Q E →
      ∃ t, PSs (cxOf CX0 P w K mg base N d.qual d.scope (He.fAd K d.at_) (.ref (He.cT K d.at_).1) A outer s H E).nox d.body t ∧ t { nx := fun _ H' => Q .non H', rt := Q } (start N vs) H) : Has P w K mg base CX0 (k + 1) d ps sp := by
  obtain ⟨fd, F⟩ := T.says.def_ i hi
  refine ⟨fd, ?_, hb fd F, F.kp⟩
  obtain ⟨oc, od, dV, kV, doc, pm, an, cdv, ct, osl, rfl, lk, hcd, _, _⟩ := F.ex
  obtain ⟨c, rfl⟩ := He.codeIn_ref hcd
  have e : (He.cT K d.at_).1 = c := He.codeOf_eq lk rfl
  rw [e] at hbody
  refine fn_of lk hcd S len fun A outer s H vs Q E hr hsp => ?_
  obtain ⟨t, h, q⟩ := hbody A outer s H vs Q E hr hsp
  exact ⟨t, h.nox, q⟩
theorem lvs_pos {rs : List RowD} (w : WfD rs) : 0 < (lvs rs).length := by
  have h1 := w.one
  have hw := w.wf
  cases hR : RR rs with
  | nil =>
    have : (RR rs).length = rs.length := by simp [RR, prs]
    rw [hR] at this
    simp at this
    omega
  | cons q R =>
    obtain ⟨x, p⟩ := q
    rw [hR] at hw
    obtain ⟨a1, a2, a3, a4⟩ := hw
    refine List.length_pos_of_mem (a := x) (mem_lvs.mpr ⟨RR_names.mp (by rw [hR]; simp), kids_nil.mpr fun z => ?_⟩)
    obtain ⟨r, hr, e⟩ := List.mem_map.mp z
    have hm : r ∈ RR rs := by
      unfold RR
      exact List.mem_reverse.mpr hr
    rw [hR] at hm
    rcases List.mem_cons.mp hm with e2 | e2
    · rw [e2] at e
      have e : p = x := e
      rcases a3 with z | z
      · exact a1 (e.symm.trans z)
      · exact a2 (e ▸ z)
    · have : r = (r.1, x) := by rw [← e]
      rw [this] at e2
      rcases parent_in a4 e2 with z | z
      · exact a1 z
      · exact a2 z
abbrev toldT (K : PySem.W.Frag) : TS := C8.tCut (tIfS (tB (tCB (rIsi K) (tCons (tVar 10) (tCons (tC (V.ty "dict")) tNil)))) (tDrop (tBM0 K "dict" rDClear (tVar 10))) tNext) (tRet (tVar 11))
theorem told_other {D : Ends} {σ : L2.St} {H : Hp} {tv : V} {ty : Value} (h10 : σ[10]? = some (some tv)) (h11 : σ[11]? = some (some (.bl true))) (hty : TyX K H tv ty) (hk : PySem.W.kitOne K ty (.type "dict") = some false) (q : D.rt (.bl true) H) : toldT K D σ H :=
  ⟨fun σ' H' => σ' = σ ∧ H' = H, ⟨_, h10, _, _, _, _, false, rfl, .ty "dict", hty, hk, false, rfl, ifF rfl ⟨rfl, rfl⟩⟩, fun σ' H' m => by
    obtain ⟨rfl, rfl⟩ := m
    exact ⟨_, h11, q⟩⟩
theorem told_dict {D : Ends} {σ : L2.St} {H : Hp} {d : Addr} {kvs : List (Key × V)} (h10 : σ[10]? = some (some (.ref d))) (h11 : σ[11]? = some (some (.bl true))) (hd : H d = some (.dK kvs)) (q : D.rt (.bl true) (upd H d (.dK []))) : toldT K D σ H :=
  ⟨fun σ' H' => σ' = σ ∧ H' = upd H d (.dK []), ⟨_, h10, _, _, _, _, true, rfl, .ty "dict", tyD (.inl hd), kit_ty (by decide +kernel), true, rfl, ifT rfl ⟨_, h10, .inr (.inr (.inl ⟨rfl, .inl ⟨_, hd⟩⟩)), d, _, rfl, rfl, hd, rfl, rfl⟩⟩, fun σ' H' m => by
    obtain ⟨rfl, rfl⟩ := m
    exact ⟨_, h11, q⟩⟩
abbrev cStep (K : PySem.W.Frag) : Addr × Addr := He.cT K d_l_step_right.at_
abbrev qStep : Str := (envOfC "_law_step_right" (defScope s_l_step_right) 0 0 .none).qual ++ "<lambda>"
abbrev tbStep (K : PySem.W.Frag) : List (Addr × Str) := [((cStep K).2, qStep)]
def spStepRight (K : PySem.W.Frag) : Sp := fun vs H Q _ => ∃ (S0 : Hp) (src pr : Addr) (a : MA) (l : LA) (c : MC) (v : MV) (lp : List (Int × Str)), vs = [.ref src, .ref a.me, .ref pr, .ref l.st] ∧ StepIn K (tbStep K) S0 H src pr a l c v lp ∧ v.ps.length < 1000 ∧ (∀ n, v.S n + 2 * 10 ^ 57 < 10 ^ 60) ∧ v.many < 1000 ∧
  ∀ H' v' lp', KeepN (src :: mutO a l) H H' → StepIn K (tbStep K) S0 H' src pr a l c v' lp' → v'.ps.length ≤ v.ps.length + 1 → (∀ n, v'.S n ≤ v.S n + 2 * 10 ^ 57) → v'.many ≤ v.many + 1 → Q (.bl true) H'
theorem ok_l_step_right (T : Tx K mg) (Z : Zx P K mg base) (TB : LamX.TabB base mg (cStep K).1 (cStep K).2) : Has P w K mg base CX0 26 d_l_step_right P_l_step_right (spStepRight K) := by
  have H_l_leaves : Has P w K mg base CX0 1 d_l_leaves P_l_leaves (spLeaves K) := ok_l_leaves T
  have H_l_next : Has P w K mg base CX0 2 d_l_next P_l_next spNext := ok_l_next T
  have H_l_many : Has P w K mg base CX0 3 d_l_many P_l_many spMany := ok_l_many T
  have H_l_started : Has P w K mg base CX0 4 d_l_started P_l_started (spStarted K) := ok_l_started T
  have H_l_taken : Has P w K mg base CX0 7 d_l_taken P_l_taken (spTaken K) := ok_l_taken T
  have H_l_given : Has P w K mg base CX0 1 d_l_given P_l_given (spGiven K) := ok_l_given T
  have H_l_back : Has P w K mg base CX0 6 d_l_back P_l_back (spBack K) := ok_l_back T
  have H_l_moved : Has P w K mg base CX0 1 d_l_moved P_l_moved (spMoved K) := ok_l_moved T
  have H_Machine_start : Has P w K mg base (CX P w) 12 d_Machine_start P_Machine_start (spStart K) := ok_start T Z
  have H_Machine_take : Has P w K mg base (CX P w) 23 d_Machine_take P_Machine_take (spTake K) := ok_take T Z
  have H_Machine_give : Has P w K mg base (CX P w) 3 d_Machine_give P_Machine_give (spGive K) := ok_give T
  have H_Machine_take_back : Has P w K mg base (CX P w) 22 d_Machine_take_back P_Machine_take_back (spTakeBack K) := ok_take_back T
  have H_Machine_move : Has P w K mg base (CX P w) 3 d_Machine_move P_Machine_move (spMove K) := ok_move T
  have H_Machine_stop : Has P w K mg base (CX P w) 3 d_Machine_stop P_Machine_stop (spStop K) := ok_stop T
  refine has_c T _ at_d_l_step_right sc_l_step_right (fun fd F => b_l_step_right F) (fun vs H Q E h => ?_) (fun A outer s H vs Q E hr h => ?_)
  · obtain ⟨S0, src, pr, a, l, c, v, lp, rfl, _⟩ := h
    rfl
  · obtain ⟨S0, src, pr, a, l, c, v, lp, rfl, I, few, sm, mny, k⟩ := h
    have hu := hu_of hr
    have hcode : (cxOf CX0 P w K mg base N_l_step_right d_l_step_right.qual d_l_step_right.scope (He.fAd K d_l_step_right.at_) (.ref (He.cT K d_l_step_right.at_).1) A outer s H E).env.code = .ref (cStep K).1 := rfl
    have hw := I.one.m.ok.wf
    have nd := sc_l_step_right.nd
    refine ⟨_, (pss_cons (ps_par (i := 4) (j := 5) rfl nd rfl rfl (by decide) rfl rfl (pa_cons (pe_cl H_l_leaves hr (by first | decide | omega) T.g_l_leaves pass0 (pa_cons (pv 2) pa_nil)) (pa_cons (pe_cl H_l_next hr (by first | decide | omega) T.g_l_next pass0 (pa_cons (pv 0) (pa_cons pe_int pa_nil))) pa_nil)) (by rfl))
        (pss_cons (ps_asg (pe_tup (pa_cons (pe_ix (ixL K rfl) (pv 4) (pe_cl H_l_next hr (by first | decide | omega) T.g_l_next pass0 (pa_cons (pv 0) (pa_cons (pe_callB (callLen K rfl) (by rfl) T.z_len (by decide +kernel) (pa_cons (pv 4) pa_nil)) pa_nil))) (fun _ _ => rfl)) (pa_cons (pe_cl H_l_next hr (by first | decide | omega) T.g_l_next pass0 (pa_cons (pv 0) (pa_cons (pe_op op_add (pe_dget hu (pv 3) pe_str (fun _ _ => rfl)) pe_int) pa_nil))) pa_nil))) (pgT (n := 2) K rfl rfl (pgs_cons (pg_name (i := 6) nd rfl (Or.inr rfl)) (pgs_cons (pg_name (i := 7) nd rfl (Or.inr rfl)) pgs_nil))))
        (pss_cons (ps_asg (pe_tup (pa_cons (pe_op op_cat (pe_lst (pa_cons pe_str pa_nil)) (pe_lc (own := [("_law_row", 13)]) (g := gName 13) (tt := tYes) rfl nd (pi_list (pv 2)) (blkOk_by (N := N_l_step_right) (sc := defScope s_l_step_right) (by decide +kernel)) (fun _ _ _ _ _ => pg_name (i := 13) nd rfl (Or.inl rfl)) (fun _ _ _ _ _ => pts_nil) (fun _ _ _ _ _ => (pe_ix (ixT K rfl) (pv 13) pe_int (fun _ _ => rfl))))) (pa_cons (pe_cl H_l_many hr (by first | decide | omega) T.g_l_many pass0 (pa_cons (pv 0) pa_nil)) pa_nil))) (pgT (n := 2) K rfl rfl (pgs_cons (pg_name (i := 8) nd rfl (Or.inl rfl)) (pgs_cons (pg_name (i := 9) nd rfl (Or.inr rfl)) pgs_nil))))
        (pss_cons (ps_if (pt_cmpR op_lt (pv 5) pe_int (nomark _)) (pss_one (ps_ret (pe_cmpR (opEqU K rfl hr.units) (pe_said T (by rfl) TB hcode (hr.mono (by decide)) (LamX.lamS_by (sc := defScope s_l_step_right) (by decide +kernel)) (by rfl) (fun _ _ _ _ _ => rfl) (fun A outer s H E f c' hr => (pe_ml H_Machine_start hr (by first | decide | omega) T.c_Machine T.m_Machine_start (passes_call (E := E) (takes_of rfl rfl rfl rfl) (fun _ _ _ _ h => h)) (pv 1) (pa_cons (pv 6) pa_nil)))) (pe_cl H_l_started hr (by first | decide | omega) T.g_l_started pass0 (pa_cons (pv 2) (pa_cons (pv 3) (pa_cons (pv 6) pa_nil)))) (nomark _)))) pss_nil)
        (pss_cons (ps_if (pt_cmpR op_lt (pv 5) pe_int (nomark _)) (pss_cons (ps_set (i := 10) nd rfl (Or.inl rfl) (pe_said T (by rfl) TB hcode (hr.mono (by decide)) (LamX.lamS_by (sc := defScope s_l_step_right) (by decide +kernel)) (by rfl) (fun _ _ _ _ _ => rfl) (fun A outer s H E f c' hr => (pe_ml H_Machine_take hr (by first | decide | omega) T.c_Machine T.m_Machine_take (passes_call (E := E) (takes_of rfl rfl rfl rfl) (fun _ _ _ _ h => h)) (pv 1) (pa_cons (pv 7) (pa_cons (pv 9) pa_nil))))))
            (pss_cons (ps_set (i := 11) nd rfl (Or.inl rfl) (pe_cmpR (opEqU K rfl hr.units) (pv 10) (pe_cl H_l_taken hr (by first | decide | omega) T.g_l_taken pass0 (pa_cons (pv 2) (pa_cons (pv 3) (pa_cons (pv 7) (pa_cons (pv 9) pa_nil))))) (nomark _)))
            (C8.pss_cut (ps_if (pt_val (pe_callB call_isi (by rfl) T.z_isinstance (by decide +kernel) (pa_cons (pv 10) (pa_cons (pe_bltn (v := .ty "dict") (by rfl) T.z_dict (by decide +kernel) rfl) pa_nil)))) (pss_one (ps_expr (pe_bm0 PySem.F.plainAttrs_dict PySem.F.slot_dict_clear PySem.F.type_dict_clear mtd_clear (pv 10)))) pss_nil)
            (pss_one (ps_ret (pv 11)))))) pss_nil)
        (pss_cons (ps_if (pt_cmpR op_eq (pv 5) pe_int (nomark _)) (pss_one (ps_ret (pe_cmpR (opEqU K rfl hr.units) (pe_said T (by rfl) TB hcode (hr.mono (by decide)) (LamX.lamS_by (sc := defScope s_l_step_right) (by decide +kernel)) (by rfl) (fun _ _ _ _ _ => rfl) (fun A outer s H E f c' hr => (pe_ml H_Machine_give hr (by first | decide | omega) T.c_Machine T.m_Machine_give (passes_call (E := E) (takes_of rfl rfl rfl rfl) (fun _ _ _ _ h => h)) (pv 1) (pa_cons (pv 6) (pa_cons (pv 9) pa_nil))))) (pe_cl H_l_given hr (by first | decide | omega) T.g_l_given pass0 (pa_cons (pv 2) (pa_cons (pv 3) (pa_cons (pv 6) (pa_cons (pv 9) pa_nil))))) (nomark _)))) pss_nil)
        (pss_cons (ps_if (pt_cmpR op_eq (pv 5) pe_int (nomark _)) (pss_cons (ps_set (i := 12) nd rfl (Or.inr rfl) (pe_ix (ixL K rfl) (pv 8) (pe_cl H_l_next hr (by first | decide | omega) T.g_l_next pass0 (pa_cons (pv 0) (pa_cons (pe_callB (callLen K rfl) (by rfl) T.z_len (by decide +kernel) (pa_cons (pv 8) pa_nil)) pa_nil))) (fun _ _ => rfl)))
            (pss_one (ps_ret (pe_cmpR (opEqU K rfl hr.units) (pe_said T (by rfl) TB hcode (hr.mono (by decide)) (LamX.lamS_by (sc := defScope s_l_step_right) (by decide +kernel)) (by rfl) (fun _ _ _ _ _ => rfl) (fun A outer s H E f c' hr => (pe_ml H_Machine_take_back hr (by first | decide | omega) T.c_Machine T.m_Machine_take_back (passes_call (E := E) (takes_of rfl rfl rfl rfl) (fun _ _ _ _ h => h)) (pv 1) (pa_cons (pv 12) (pa_cons (pv 9) pa_nil))))) (pe_cl H_l_back hr (by first | decide | omega) T.g_l_back pass0 (pa_cons (pv 2) (pa_cons (pv 3) (pa_cons (pv 12) (pa_cons (pv 9) pa_nil))))) (nomark _))))) pss_nil)
        (pss_cons (ps_if (pt_cmpR op_eq (pv 5) pe_int (nomark _)) (pss_one (ps_ret (pe_cmpR (opEqU K rfl hr.units) (pe_said T (by rfl) TB hcode (hr.mono (by decide)) (LamX.lamS_by (sc := defScope s_l_step_right) (by decide +kernel)) (by rfl) (fun _ _ _ _ _ => rfl) (fun A outer s H E f c' hr => (pe_ml H_Machine_move hr (by first | decide | omega) T.c_Machine T.m_Machine_move (passes_call (E := E) (takes_of rfl rfl rfl rfl) (fun _ _ _ _ h => h)) (pv 1) (pa_cons (pv 7) (pa_cons (pv 6) pa_nil))))) (pe_cl H_l_moved hr (by first | decide | omega) T.g_l_moved pass0 (pa_cons (pv 3) (pa_cons (pv 7) (pa_cons (pv 6) pa_nil)))) (nomark _)))) pss_nil)
        (pss_one (ps_ret (pe_cmpR (opEqU K rfl hr.units) (pe_said T (by rfl) TB hcode (hr.mono (by decide)) (LamX.lamS_by (sc := defScope s_l_step_right) (by decide +kernel)) (by rfl) (fun _ _ _ _ _ => rfl) (fun A outer s H E f c' hr => (pe_ml H_Machine_stop hr (by first | decide | omega) T.c_Machine T.m_Machine_stop (passes_call (E := E) (takes_of rfl rfl rfl rfl) (fun _ _ _ _ h => h)) (pv 1) (pa_cons (pv 7) pa_nil)))) (pe_cl H_l_moved hr (by first | decide | omega) T.g_l_moved pass0 (pa_cons (pv 3) (pa_cons (pv 7) (pa_cons pe_non pa_nil)))) (nomark _)))))))))))), ?_⟩
    refine ⟨_, rfl, pr, c.rs, rfl, I.one.q.Rows, hw.few, fun p H1 hp e1 h1 => ?_⟩
    have I1 := I.to e1
    refine ⟨_, rfl, src, 10, rfl, I1.hs, by decide, by decide, fun w H2 w0 w1 k2 s2 => ⟨_, _, rfl, ?_⟩⟩
    have I2 := I1.draw k2 s2
    have np : p ≠ src := fun e => by
      obtain ⟨x, y, z, q⟩ := I.hs
      rw [← e, hp] at q
      cases q
    have h2 : H2 p = some (.lst ((lvs c.rs).map V.str)) := keepA k2 h1 np
    have hlv : 0 < (lvs c.rs).length := lvs_pos hw
    have hlv8 : (lvs c.rs).length ≤ 8 := Nat.le_trans (lvs_len c.rs) hw.few
    refine ⟨_, rfl, _, rfl, _, rfl, p, _, rfl, .inl (K74.SqL.of' h2), ?_⟩
    rw [List.length_map]
    refine ⟨src, _, rfl, I2.hs, by omega, by omega, fun i H3 i0 i1 k3 s3 => ?_⟩
    have I3 := I2.draw k3 s3
    have h3 := keepA k3 h2 np
    obtain ⟨j, rfl⟩ := Int.eq_ofNat_of_zero_le i0
    have hj : j < (lvs c.rs).length := by omega
    obtain ⟨x, hx⟩ : ∃ x, (lvs c.rs)[j]? = some x := ⟨_, List.getElem?_eq_getElem hj⟩
    have hxl : x ∈ lvs c.rs := List.mem_of_getElem? hx
    refine ⟨p, _, _, .str x, rfl, rfl, K74.SqL.of' h3, atI_nat (by rw [List.getElem?_map, hx]; rfl), ?_⟩
    refine ⟨_, rfl, _, rfl, l.st, _, rfl, I3.one.q.gMany, _, _, rfl, rfl, src, _, rfl, I3.hs, by have := I.one.m.vok.ge; omega, by omega, fun t H4 t0 t1 k4 s4 => ?_⟩
    have I4 := I3.draw k4 s4
    refine ⟨by show 2 ≤ sizeLine; decide, fun q2 hq2 => ?_⟩
    have I5 := I4.to (Ex.new (o := .tup [V.str x, .int t]) hq2)
    have kk5 : Keep [src] H (upd H4 q2 (.tup [V.str x, .int t])) := ((Keep.exR e1 k2).trans (k3.trans k4)).exL (Ex.new hq2)
    obtain ⟨H5, hH5⟩ : ∃ H5, H5 = upd H4 q2 (.tup [V.str x, .int t]) := ⟨_, rfl⟩
    have h5 : H5 q2 = some (.tup [V.str x, .int t]) := by rw [hH5]; exact upd_same
    show gTup K 2 _ _ [some (.ref src), some (.ref a.me), some (.ref pr), some (.ref l.st), some (.ref p), some (.int w), none, none, none, none, none, none, none, none] (upd H4 q2 (.tup [V.str x, .int t])) _
    rw [← hH5] at I5 kk5 ⊢
    clear hH5
    refine ⟨q2, _, rfl, K74.SqT.of' h5, rfl, _, _, rfl, _, _, rfl, rfl, ?_⟩
    show tSeq _ _ _ [some (.ref src), some (.ref a.me), some (.ref pr), some (.ref l.st), some (.ref p), some (.int w), some (.str x), some (.int t), none, none, none, none, none, none] H5
    refine ⟨by show 1 ≤ sizeLine; decide, fun l1 hl1 => ?_⟩
    have I6 := I5.to (Ex.new (o := .lst [V.str ""]) hl1)
    refine ⟨_, rfl, pr, rfl, I6.one.q.Rows.sq, fun l2 hl2 => ?_⟩
    refine lc_rows I6.one.q.Rows hw.few (fun r => some (V.str r.nm)) hl2 (fun i t r cv H' hb e hT hc Q q => ?_) (fun H7 e7 h7 => ?_)
    · exact ⟨rfl, _, rfl, t, _, _, _, rfl, rfl, hT, rfl, q _ (Ex.refl _)⟩
    rw [filterMap_some] at h7
    have I7 := I6.to e7
    refine ⟨l1, l2, _, _, rfl, rfl, e7 _ _ upd_same, h7, by rw [List.length_map]; have := hw.few; show 1 + _ ≤ sizeLine; rw [sizeLine_eq]; omega, fun l3 hl3 => ?_⟩
    have I8 := I7.to (Ex.new (o := .lst ([V.str ""] ++ c.rs.map fun r => V.str r.nm)) hl3)
    refine ⟨_, rfl, src, rfl, I8.hs, fun N H9 k9 s9 N0 N1 => ?_⟩
    have I9 := I8.draw k9 s9
    refine ⟨by show 2 ≤ sizeLine; decide, fun q3 hq3 => ?_⟩
    have I10 := I9.to (Ex.new (o := .tup [V.ref l3, .int N]) hq3)
    have kk10 : Keep [src] H (upd H9 q3 (.tup [V.ref l3, .int N])) := (((kk5.exL (((Ex.new (o := .lst [V.str ""]) hl1).trans e7).trans (Ex.new (o := .lst ([V.str ""] ++ c.rs.map fun r => V.str r.nm)) hl3))).trans k9).exL (Ex.new hq3))
    have nl3 : l3 ≠ src := fun e => by
      obtain ⟨x, y, z, q⟩ := I7.hs
      rw [← e, hl3] at q
      cases q
    have h10 : (upd H9 q3 (.tup [V.ref l3, .int N])) l3 = some (.lst ((("" : Str) :: nms c.rs).map V.str)) := by
      have := Ex.new (o := .tup [V.ref l3, .int N]) hq3 _ _ (keepA k9 (upd_same (a := l3) (o := .lst ([V.str ""] ++ c.rs.map fun r => V.str r.nm))) nl3)
      rw [this]
      simp [nms]
    have hq10 : (upd H9 q3 (.tup [V.ref l3, .int N])) q3 = some (.tup [V.ref l3, .int N]) := upd_same
    show gTup K 2 _ _ [some (.ref src), some (.ref a.me), some (.ref pr), some (.ref l.st), some (.ref p), some (.int w), some (.str x), some (.int t), none, none, none, none, none, none] (upd H9 q3 (.tup [V.ref l3, .int N])) _
    generalize upd H9 q3 (.tup [V.ref l3, .int N]) = Ha at *
    refine ⟨q3, _, rfl, K74.SqT.of' hq10, rfl, _, _, rfl, _, _, rfl, rfl, ?_⟩
    show tSeq _ _ _ [some (.ref src), some (.ref a.me), some (.ref pr), some (.ref l.st), some (.ref p), some (.int w), some (.str x), some (.int t), some (.ref l3), some (.int N), none, none, none, none] Ha
    have kN : ∀ {Hb Hc : Hp} {L : List Addr}, LamX.ExtN Ha Hb → Keep L Hb Hc → (∀ b, b ∈ L → b ∈ mutO a l) → KeepN (src :: mutO a l) H Hc := fun e kb hL => (((KeepN.of kk10).mono fun b hb => by rw [List.mem_singleton.mp hb]; exact List.mem_cons_self).trans (KeepN.ofN e)).trans ((KeepN.of kb).mono fun b hb => List.mem_cons_of_mem _ (hL b hb))
    have hxs : ∀ n : Str, n = "" ∨ n ∈ nms c.rs → PyData.strOk n = true := fun n hn => hn.elim (fun e => by rw [e]; decide +kernel) fun h => (hw.nameOk h).str
    have hstr : PyData.strOk "room" = true := by decide +kernel
    have hsO : ∀ n, v.S n ≤ v.S n + 2 * 10 ^ 57 := fun n => by omega
    clear hq10 hq3 h1 h2 h3 h5 h7 hl1 hl2 hl3 hj i0 i1 np I1 I2 I3 I4 I5 I6 I7 I8 I9
    refine ⟨_, rfl, _, _, rfl, rfl, _, rfl, ?_⟩
    by_cases c1 : w < 3
    · refine ifT (decide_eq_true c1) ⟨I10.tab, fun Hb eb tb => ?_⟩
      have Ib := I10.lam eb tb
      refine ⟨_, rfl, a.me, _, _, rfl, Ib.one.m.me, rfl, _, rfl, S0, a, c, v, x, rfl, Ib.one.m, hxl, few, fun n hn d Hd hd ed hdd => .inl ⟨d, n, rfl, rfl, hdd, fun tt H2 e2 h2 => ?_⟩, fun hn Hd kd Md => ?_⟩
      · have I2 := (Ib.to ed).to e2
        refine ⟨_, rfl, _, rfl, _, rfl, S0, l, pr, c, v, lp, x, rfl, I2.one.q, hxl, few, fun n' hn' t2 H3 e3 h3 => .inl ?_, fun hn' => ?_⟩
        · rw [hn] at hn'
          cases hn'
          exact eqU_room hstr (hxs n (wayU_mem (List.mem_of_find?_eq_some hn))) (e3.t h2) h3 (k _ v lp (kN (L := []) eb (Keep.of ((ed.trans e2).trans e3)) fun b hb => by cases hb) (I2.to e3) (by omega) hsO (by omega))
        · rw [hn] at hn'
          cases hn'
      · obtain ⟨Ld, sd, td⟩ := Ib.mach kd Md
        refine ⟨_, rfl, _, rfl, _, rfl, S0, l, pr, c, v, lp, x, rfl, Ld, hxl, few, fun n' hn' => ?_, fun _ He lp' ke Le => .inl (eqU_int _ ?_)⟩
        · rw [hn] at hn'
          cases hn'
        · refine k _ _ lp' (kN (L := mutO a l) eb ((kd.mono fun b hb => List.mem_append_left _ hb).trans (ke.mono fun b hb => ?_)) fun b hb => hb) (mk_step Ib Md sd td ke (fun b hb => ?_) (fun b hb => Ld.solid b ?_) Le) (by simp) hsO (Int.le_refl _)
          all_goals
            simp only [List.mem_cons, List.mem_nil_iff, or_false] at hb
            rcases hb with e | e <;> simp [e]
    refine ifF (decide_eq_false c1) ⟨_, rfl, _, _, rfl, rfl, _, rfl, ?_⟩
    by_cases c2 : w < 6
    · have smN : ∀ n, v.S n + N < 10 ^ 60 := fun n => by have := sm n; omega
      refine ifT (decide_eq_true c2) ⟨I10.tab, fun Hb eb tb => ?_⟩
      have Ib := I10.lam eb tb
      refine ⟨_, rfl, a.me, _, _, rfl, Ib.one.m.me, rfl, _, rfl, _, rfl, S0, a, c, v, t, N, rfl, Ib.one.m, t0, N0, smN, fun ht => .inr (.inr ⟨rfl, rfl, fun H2 e2 => ?_⟩), fun y hy => ⟨fun n hn d Hd hd ed hdd => .inl ⟨d, n, rfl, rfl, hdd, fun tt H2 e2 h2 => ?_⟩, fun hn d Hd hd kd Md hdd => ?_⟩⟩
      · have I2 := Ib.to e2
        refine ⟨_, rfl, _, rfl, _, rfl, _, rfl, _, rfl, S0, l, pr, c, v, lp, t, N, rfl, I2.one.q, N0, smN, fun _ => .inl (eqU_str (by decide +kernel) ?_), fun y hy => ?_⟩
        · exact told_other rfl rfl (.base (.str _)) (kit_ty (by decide +kernel)) (k _ v lp (kN (L := []) eb (Keep.of e2) fun b hb => by cases hb) I2 (by omega) hsO (by omega))
        · rw [ht] at hy
          cases hy
      · have I2 := (Ib.to ed).to e2
        refine ⟨_, rfl, _, rfl, _, rfl, _, rfl, _, rfl, S0, l, pr, c, v, lp, t, N, rfl, I2.one.q, N0, smN, fun ht => ?_, fun y' hy' => ⟨fun n' hn' t2 H3 e3 h3 => .inl ?_, fun hn' => ?_⟩⟩
        · rw [hy] at ht
          cases ht
        · rw [hy] at hy'
          cases hy'
          rw [hn] at hn'
          cases hn'
          exact eqU_room hstr (hxs n (wayD_mem (List.mem_of_find?_eq_some hn))) (e3.t h2) h3 (told_other rfl rfl (tyT (e3.t h2)) (kit_ty (by decide +kernel)) (k _ v lp (kN (L := []) eb (Keep.of ((ed.trans e2).trans e3)) fun b hb => by cases hb) (I2.to e3) (by omega) hsO (by omega)))
        · rw [hy] at hy'
          cases hy'
          rw [hn] at hn'
          cases hn'
      · obtain ⟨Ld, sd, td⟩ := Ib.mach kd Md
        obtain ⟨d0, dn⟩ := Ib.fresh hd
        refine ⟨_, rfl, _, rfl, _, rfl, _, rfl, _, rfl, S0, l, pr, c, v, lp, t, N, rfl, Ld, N0, smN, fun ht => ?_, fun y' hy' => ⟨fun n' hn' => ?_, fun _ d2 He hd2 ke Le hdd2 => .inr ?_⟩⟩
        · rw [hy] at ht
          cases ht
        · rw [hy] at hy'
          cases hy'
          rw [hn] at hn'
          cases hn'
        · rw [hy] at hy'
          cases hy'
          have Ie := mk_step Ib Md sd td ke (fun b hb => by rw [List.mem_singleton.mp hb]; simp) (fun b hb => Ld.solid b (by rw [List.mem_singleton.mp hb]; simp)) Le
          have hde := ke _ _ hdd fun z => dn (List.mem_append_right _ (by rw [List.mem_singleton.mp z]; simp))
          have hS : ∀ n, takenS c v N y n ≤ v.S n + 2 * 10 ^ 57 := fun n => by
            have t1 := taken_le Ib.one.m.ok Ib.one.m.vok N0 hn n
            omega
          refine eqU_fm hde hdd2 (told_dict rfl rfl hde (k _ _ lp ?_ (Ie.put hde d0 dn _) (Nat.le_succ _) hS (by show v.many ≤ v.many + 1; omega)))
          have k1 : Keep (mutO a l) Hb He := (kd.mono fun b hb => List.mem_append_left _ hb).trans (ke.mono fun b hb => by rw [List.mem_singleton.mp hb]; simp)
          have k2 : Keep (mutO a l) Hb (upd He d (.dK [])) := fun b o hb hn => by
            have hbd : b ≠ d := fun e => by rw [e, hd] at hb; cases hb
            rw [upd_ne hbd]
            exact k1 b o hb hn
          exact kN (L := mutO a l) eb k2 fun b hb => hb
    refine ifF (decide_eq_false c2) ⟨_, rfl, rfl, _, rfl, ?_⟩
    by_cases c3 : w = 6
    · refine ifT (by rw [c3]; rfl) ⟨I10.tab, fun Hb eb tb => ?_⟩
      have Ib := I10.lam eb tb
      refine ⟨_, rfl, a.me, _, _, rfl, Ib.one.m.me, rfl, _, rfl, _, rfl, S0, a, c, v, x, N, rfl, Ib.one.m, N0, hxl, fun hn Hd ed => .inr (.inl ⟨rfl, rfl, fun H2 e2 => ?_⟩), fun hn Hd kd Md => ?_⟩
      · have I2 := (Ib.to ed).to e2
        refine ⟨_, rfl, _, rfl, _, rfl, _, rfl, S0, l, pr, c, v, lp, x, N, rfl, I2.one.q, hxl, N0, fun _ => .inl (eqU_str (by decide +kernel) ?_), fun h => ?_⟩
        · exact k _ v lp (kN (L := []) eb (Keep.of (ed.trans e2)) fun b hb => by cases hb) I2 (by omega) hsO (by omega)
        · omega
      · obtain ⟨Ld, sd, td⟩ := Ib.mach kd Md
        refine ⟨_, rfl, _, rfl, _, rfl, _, rfl, S0, l, pr, c, v, lp, x, N, rfl, Ld, hxl, N0, fun h => ?_, fun _ He ke Le => .inl (eqU_non ?_)⟩
        · omega
        · refine k _ _ lp (kN (L := mutO a l) eb ((kd.mono fun b hb => List.mem_append_left _ hb).trans (ke.mono fun b hb => ?_)) fun b hb => hb) (mk_step Ib Md sd td ke (fun b hb => ?_) (fun b hb => Ld.solid b ?_) Le) (Nat.le_succ _) (fun n => ?_) (by show v.many ≤ v.many + 1; omega)
          · rw [List.mem_singleton.mp hb]; simp
          · rw [List.mem_singleton.mp hb]; simp
          · rw [List.mem_singleton.mp hb]; simp
          · show setS v.S x (v.S x - N) n ≤ _
            unfold setS
            split
            · rename_i e
              rw [e]
              omega
            · omega
    refine ifF (by simp [c3]) ⟨_, rfl, rfl, _, rfl, ?_⟩
    by_cases c4 : w = 7
    · refine ifT (by rw [c4]; rfl) ⟨_, rfl, _, rfl, _, rfl, l3, _, rfl, .inl (K74.SqL.of' h10), ?_⟩
      rw [List.length_map, List.length_cons]
      have hnl : (nms c.rs).length ≤ 8 := by rw [nms, List.length_map]; exact hw.few
      refine ⟨src, _, rfl, I10.hs, by omega, by omega, fun i H3 i0 i1 k3 s3 => ?_⟩
      have I3 := I10.draw k3 s3
      have h3 := keepA k3 h10 nl3
      obtain ⟨j, rfl⟩ := Int.eq_ofNat_of_zero_le i0
      have hj : j < ((("" : Str) :: nms c.rs)).length := by rw [List.length_cons]; omega
      obtain ⟨y, hy⟩ : ∃ y, ((("" : Str) :: nms c.rs))[j]? = some y := ⟨_, List.getElem?_eq_getElem hj⟩
      have hyl : y = "" ∨ y ∈ nms c.rs := List.mem_cons.mp (List.mem_of_getElem? hy)
      refine ⟨l3, _, _, .str y, rfl, rfl, K74.SqL.of' h3, atI_nat (by rw [List.getElem?_map, hy]; rfl), ?_⟩
      have kN2 : ∀ {Hb Hc : Hp} {L : List Addr}, LamX.ExtN H3 Hb → Keep L Hb Hc → (∀ b, b ∈ L → b ∈ mutO a l) → KeepN (src :: mutO a l) H Hc := fun e kb hL => (((KeepN.of (kk10.trans k3)).mono fun b hb => by rw [List.mem_singleton.mp hb]; exact List.mem_cons_self).trans (KeepN.ofN e)).trans ((KeepN.of kb).mono fun b hb => List.mem_cons_of_mem _ (hL b hb))
      refine ⟨I3.tab, fun Hb eb tb => ?_⟩
      have Ib := I3.lam eb tb
      refine ⟨_, rfl, a.me, _, _, rfl, Ib.one.m.me, rfl, _, rfl, _, rfl, S0, a, c, v, y, N, rfl, Ib.one.m, hyl, N0, fun hn Hd ed => .inr (.inl ⟨rfl, rfl, fun H2 e2 => ?_⟩), fun hn d Hd hd kd Md hdd => ?_⟩
      · have I2 := (Ib.to ed).to e2
        refine ⟨_, rfl, _, rfl, _, rfl, _, rfl, S0, l, pr, c, v, lp, y, N, rfl, I2.one.q, N0, fun _ He ee => .inl (eqU_str (by decide +kernel) ?_), fun h => ?_⟩
        · exact k _ v lp (kN2 (L := []) eb (Keep.of ((ed.trans e2).trans ee)) fun b hb => by cases hb) (I2.to ee) (by omega) hsO (by omega)
        · omega
      · obtain ⟨Ld, sd, td⟩ := Ib.mach kd Md
        obtain ⟨d0, dn⟩ := Ib.fresh hd
        refine ⟨_, rfl, _, rfl, _, rfl, _, rfl, S0, l, pr, c, v, lp, y, N, rfl, Ld, N0, fun h => ?_, fun _ d2 He hd2 ke Le hdd2 => .inr ?_⟩
        · omega
        · have Ie := mk_step Ib Md sd td ke (fun b hb => by rw [List.mem_singleton.mp hb]; simp) (fun b hb => Ld.solid b (by rw [List.mem_singleton.mp hb]; simp)) Le
          have hde := ke _ _ hdd fun z => dn (List.mem_append_right _ (by rw [List.mem_singleton.mp z]; simp))
          refine eqU_fm hde hdd2 (k _ _ lp (kN2 (L := mutO a l) eb ((kd.mono fun b hb => List.mem_append_left _ hb).trans (ke.mono fun b hb => by rw [List.mem_singleton.mp hb]; simp)) fun b hb => hb) Ie (Nat.le_succ _) (fun n => ?_) (by show v.many ≤ v.many + 1; omega))
          have := sub_le c.rs (kpF c) v.S y N n
          show subS v.S (lostK c.rs (kpF c) v.S y N) (lostT c.rs (kpF c) v.S y N) n ≤ _
          omega
    refine ifF (by simp [c4]) ⟨_, rfl, rfl, _, rfl, ?_⟩
    have lenM : ∀ yo, (mvP v.ps t yo).length ≤ v.ps.length := fun yo => by
      cases yo with
      | some y => show (setP v.ps t y).length ≤ _; rw [setP, List.length_map]; exact Nat.le_refl _
      | none => exact List.length_filter_le _ _
    by_cases c5 : w = 8
    · refine ifT (by rw [c5]; rfl) ⟨I10.tab, fun Hb eb tb => ?_⟩
      have Ib := I10.lam eb tb
      refine ⟨_, rfl, a.me, _, _, rfl, Ib.one.m.me, rfl, _, rfl, _, rfl, S0, a, c, v, t, x, rfl, Ib.one.m, t0, hxl, fun ht => .inr (.inr ⟨rfl, rfl, fun H2 e2 => ?_⟩), fun y hy Hd kd Md => ?_⟩
      · have I2 := Ib.to e2
        refine ⟨_, rfl, _, rfl, _, rfl, S0, l, pr, c, v, lp, t, some x, rfl, I2.one.q, (fun y hy => by cases hy; exact hxl), fun _ => .inl (eqU_str (by decide +kernel) ?_), fun y hy => ?_⟩
        · exact k _ v lp (kN (L := []) eb (Keep.of e2) fun b hb => by cases hb) I2 (by omega) hsO (by omega)
        · rw [ht] at hy
          cases hy
      · obtain ⟨Ld, sd, td⟩ := Ib.mach kd Md
        refine ⟨_, rfl, _, rfl, _, rfl, S0, l, pr, c, v, lp, t, some x, rfl, Ld, (fun y hy => by cases hy; exact hxl), fun ht => ?_, fun y' hy' He lp' ke Le => .inl (eqU_non ?_)⟩
        · rw [ht] at hy
          cases hy
        · exact k _ _ lp' (kN (L := mutO a l) eb ((kd.mono fun b hb => List.mem_append_left _ hb).trans (ke.mono fun b hb => by rw [List.mem_singleton.mp hb]; simp)) fun b hb => hb) (mk_step Ib Md sd td ke (fun b hb => by rw [List.mem_singleton.mp hb]; simp) (fun b hb => Ld.solid b (by rw [List.mem_singleton.mp hb]; simp)) Le) (Nat.le_succ_of_le (lenM (some x))) hsO (by show v.many ≤ v.many + 1; omega)
    refine ifF (by simp [c5]) ⟨I10.tab, fun Hb eb tb => ?_⟩
    have Ib := I10.lam eb tb
    refine ⟨_, rfl, a.me, _, _, rfl, Ib.one.m.me, rfl, _, rfl, S0, a, c, v, t, rfl, Ib.one.m, t0, fun ht => .inr (.inr ⟨rfl, rfl, fun H2 e2 => ?_⟩), fun y hy Hd kd Md => ?_⟩
    · have I2 := Ib.to e2
      refine ⟨_, rfl, _, rfl, S0, l, pr, c, v, lp, t, none, rfl, I2.one.q, (fun y hy => by cases hy), fun _ => .inl (eqU_str (by decide +kernel) ?_), fun y hy => ?_⟩
      · exact k _ v lp (kN (L := []) eb (Keep.of e2) fun b hb => by cases hb) I2 (by omega) hsO (by omega)
      · rw [ht] at hy
        cases hy
    · obtain ⟨Ld, sd, td⟩ := Ib.mach kd Md
      refine ⟨_, rfl, _, rfl, S0, l, pr, c, v, lp, t, none, rfl, Ld, (fun y hy => by cases hy), fun ht => ?_, fun y' hy' He lp' ke Le => .inl (eqU_non ?_)⟩
      · rw [ht] at hy
        cases hy
      · exact k _ _ lp' (kN (L := mutO a l) eb ((kd.mono fun b hb => List.mem_append_left _ hb).trans (ke.mono fun b hb => by rw [List.mem_singleton.mp hb]; simp)) fun b hb => hb) (mk_step Ib Md sd td ke (fun b hb => by rw [List.mem_singleton.mp hb]; simp) (fun b hb => Ld.solid b (by rw [List.mem_singleton.mp hb]; simp)) Le) (Nat.le_succ_of_le (lenM none)) hsO (by show v.many ≤ v.many + 1; omega)
end
end K74
set_option Elab.async false
set_option linter.all false
set_option maxRecDepth 100000
set_option maxHeartbeats 4000000
namespace K74
open PySem PySem.Spec PyProof.Rows L2
section
variable {P : Program} {w : World} {K : PySem.W.Frag} {mg : Str → Option Value} {base : Heap}
abbrev N_l_stands : List Str := ["_law_machine", "_law_rows_here", "_law_state", "_law_name", "_law_turn", "_law_told", "_law_row", "_law_leaf"]
abbrev P_l_stands : List Str := ["_law_machine", "_law_rows_here", "_law_state"]
theorem sc_l_stands : FnScope N_l_stands P_l_stands (defScope s_l_stands) := C8.fnScope_by (by decide +kernel)
theorem b_l_stands {K : PySem.W.Frag} {fd : FuncData} (F : FunD K d_l_stands.name d_l_stands.qual d_l_stands.params d_l_stands.body d_l_stands.scope (d_l_stands.dvs K) (d_l_stands.kws K) (He.fAd K d_l_stands.at_) fd) : L2.Binds K fd P_l_stands [] :=
  FunD.bindsN F fun _ _ _ _ _ _ us hl => match us, hl with | [_, _, _], _ => rfl
theorem shaped_ii (x y : Int) : SeqAt.shaped (.tuple [.int x, .int y]) = true := by
  show (PyData.canLay0 (.tuple [.int x, .int y]) && decide (PyData.depth (.tuple [.int x, .int y]) ≤ 64)) = true
  rw [Bool.and_eq_true]
  exact ⟨by simp [PyData.canLay0, PyData.canLayAll0], by simp [PyData.depth, PyData.depthAll]⟩
theorem minV_eq {L1 L2 : List Int} {r1 r2 : V} (hm : ∀ x, x ∈ L1 ↔ x ∈ L2) (h1 : MinV L1 r1) (h2 : MinV L2 r2) : r1 = r2 := by
  rcases h1 with ⟨e1, rfl⟩ | ⟨m1, rfl, a1, b1⟩ <;> rcases h2 with ⟨e2, rfl⟩ | ⟨m2, rfl, a2, b2⟩
  · rfl
  · have := (hm m2).mpr a2
    rw [e1] at this
    cases this
  · have := (hm m1).mp a1
    rw [e2] at this
    cases this
  · have x1 := b1 m2 ((hm m2).mpr a2)
    have x2 := b2 m1 ((hm m1).mp a1)
    rw [show m1 = m2 by omega]
theorem minV_D {K : PySem.W.Frag} {L : List Int} {r : V} {H : Hp} {Q : VK} (h : MinV L r) (q : Q (.bl true) H) : rEqD K r r H Q := by
  rcases h with ⟨_, rfl⟩ | ⟨m, rfl, _⟩
  · exact eqU_non q
  · exact eqU_int m q
theorem LSq.frz {K : PySem.W.Frag} {S0 H Hl : Hp} {l : LA} {a : Addr} {c : MC} {v : MV} {lp : List (Int × Str)} {od : Obj} (h : LSq K S0 H l a c v lp) (h1 : Hl l.sz = some (.frz od (.dK (fm (lvs c.rs) v.S)))) (h2 : ∀ b, b ≠ l.sz → Hl b = H b) : LRd K S0 Hl l a c v :=
  ⟨fun b o hb => by
    rw [h2 b fun e => by rw [e, h.nsz] at hb; cases hb]
    exact h.ex b o hb, h.rows, h.lim, h.nst, h.nsz, by rw [h2 _ h.n2]; exact h.st, .inr ⟨od, h1⟩, h.ok, h.vok⟩
theorem MSt.but {K : PySem.W.Frag} {S0 H Hl : Hp} {a : MA} {c : MC} {v : MV} {d : Addr} (h : MSt K S0 H a c v) (hd : d ∉ mutA a) (h0 : S0 d = none) (h2 : ∀ b, b ≠ d → Hl b = H b) : MSt K S0 Hl a c v :=
  h.keepL (L := [d]) (fun b o hb hn => by rw [h2 b (by simpa using hn)]; exact hb) fun b hb => by rw [List.mem_singleton.mp hb]; exact ⟨h0, hd⟩
def spStands (K : PySem.W.Frag) : Sp := fun vs H Q _ => ∃ (S0 : Hp) (pr : Addr) (a : MA) (l : LA) (c : MC) (v : MV) (lp : List (Int × Str)), vs = [.ref a.me, .ref pr, .ref l.st] ∧ One K S0 H pr a l c v lp ∧ ∀ H', Ex H H' → Q (.bl true) H'
theorem ok_l_stands (T : Tx K mg) : Has P w K mg base CX0 14 d_l_stands P_l_stands (spStands K) := by
  have H_l_running : Has P w K mg base CX0 3 d_l_running P_l_running (spLRunning K) := ok_l_running T
  have H_l_charged : Has P w K mg base CX0 2 d_l_charged P_l_charged (spCharged K) := ok_l_charged T
  have H_l_spare : Has P w K mg base CX0 3 d_l_spare P_l_spare (spLSpare K) := ok_l_spare T
  have H_Machine_running : Has P w K mg base CX0 11 d_Machine_running P_Machine_running (spRunning K) := ok_running T
  have H_Machine_charged : Has P w K mg base CX0 11 d_Machine_charged P_Machine_charged (spMCharged K) := ok_charged T
  have H_Machine_spare : Has P w K mg base CX0 12 d_Machine_spare P_Machine_spare (spMSpare K) := ok_spare T
  refine has0 T _ at_d_l_stands sc_l_stands (fun fd F => b_l_stands F) (fun vs H Q E h => ?_) (fun cdv A outer s H vs Q E hr h => ?_)
  · obtain ⟨S0, pr, a, l, c, v, lp, rfl, _⟩ := h
    rfl
  · obtain ⟨S0, pr, a, l, c, v, lp, rfl, I, k⟩ := h
    have hu := hu_of hr
    have hw := I.m.ok.wf
    have hlz : (lvs c.rs).length ≤ 8 := Nat.le_trans (lvs_len c.rs) hw.few
    have nd := sc_l_stands.nd
    refine ⟨_, (pss_cons (ps_for PassesOwn.never rfl (pi_list (pe_op op_cat (pe_lst (pa_cons pe_str pa_nil)) (pe_lc (own := [("_law_row", 6)]) (g := gName 6) (tt := tYes) rfl nd (pi_list (pv 1)) (blkOk_by (N := N_l_stands) (sc := defScope s_l_stands) (by decide +kernel)) (fun _ _ _ _ _ => pg_name (i := 6) nd rfl (Or.inl rfl)) (fun _ _ _ _ _ => pts_nil) (fun _ _ _ _ _ => (pe_ix (ixT K rfl) (pv 6) pe_int (fun _ _ => rfl)))))) (pg_name (i := 3) nd rfl (Or.inl rfl))
          (pss_one (ps_for PassesOwn.never rfl (pi_range1 (by rfl) T.z_range (pa_cons pe_int pa_nil)) (pg_name (i := 4) nd rfl (Or.inl rfl))
              (pss_cons (ps_set (i := 5) nd rfl (Or.inl rfl) (pe_tup (pa_cons (pe_ml H_Machine_running hr (by first | decide | omega) T.c_Machine T.m_Machine_running pass0 (pv 0) (pa_cons (pv 3) pa_nil)) (pa_cons (pe_ml H_Machine_charged hr (by first | decide | omega) T.c_Machine T.m_Machine_charged pass0 (pv 0) (pa_cons (pv 3) pa_nil)) pa_nil))))
                (pss_one (ps_if (pt_cmpR (opNeD K rfl hr.units) (pv 5) (pe_tup (pa_cons (pe_cl H_l_running hr (by first | decide | omega) T.g_l_running pass0 (pa_cons (pv 1) (pa_cons (pv 2) (pa_cons (pv 3) pa_nil)))) (pa_cons (pe_cl H_l_charged hr (by first | decide | omega) T.g_l_charged pass0 (pa_cons (pv 1) (pa_cons (pe_dget hu (pv 2) pe_str (fun _ _ => rfl)) (pa_cons (pv 3) pa_nil)))) pa_nil))) (nomark _)) (pss_one (ps_ret pe_bl)) pss_nil))))))
        (pss_one (ps_ret (pe_callB (cr_all rfl) (by rfl) T.z_all (by decide +kernel) (pa_cons (pe_lockO (pe_lc (own := [("_law_leaf", 7)]) (g := gName 7) (tt := tYes) rfl nd (pi_keys (pe_dget hu (pv 2) pe_str (fun _ _ => rfl))) (blkOk_by (N := N_l_stands) (sc := defScope s_l_stands) (by decide +kernel)) (fun _ _ _ _ _ => pg_name (i := 7) nd rfl (Or.inl rfl)) (fun _ _ _ _ _ => pts_nil) (fun _ _ _ _ _ => (pe_cmpR (opEqD K rfl hr.units) (pe_ml H_Machine_spare hr (by first | decide | omega) T.c_Machine T.m_Machine_spare pass0 (pv 0) (pa_cons (pv 7) pa_nil)) (pe_cl H_l_spare hr (by first | decide | omega) T.g_l_spare pass0 (pa_cons (pv 1) (pa_cons (pv 2) (pa_cons (pv 7) pa_nil)))) (nomark _))))) pa_nil))))), ?_⟩
    refine ⟨by show 1 ≤ sizeLine; decide, fun l1 hl1 => ?_⟩
    have I1 := I.to (Ex.new (o := .lst [V.str ""]) hl1)
    refine ⟨_, rfl, pr, rfl, I1.q.Rows.sq, fun l2 hl2 => ?_⟩
    refine lc_rows I1.q.Rows hw.few (fun r => some (V.str r.nm)) hl2 (fun i t r cv H' hb e hT hc Q q => ?_) (fun H2 e2 h2 => ?_)
    · exact ⟨rfl, _, rfl, t, _, _, _, rfl, rfl, hT, rfl, q _ (Ex.refl _)⟩
    rw [filterMap_some] at h2
    have I2 := I1.to e2
    refine ⟨l1, l2, _, _, rfl, rfl, e2 _ _ upd_same, h2, by rw [List.length_map]; have := hw.few; show 1 + _ ≤ sizeLine; rw [sizeLine_eq]; omega, fun l3 hl3 => ?_⟩
    have e3 : Ex H (upd H2 l3 (.lst ([V.str ""] ++ c.rs.map fun r => V.str r.nm))) := ((Ex.new hl1).trans e2).trans (Ex.new hl3)
    have h3 : (upd H2 l3 (.lst ([V.str ""] ++ c.rs.map fun r => V.str r.nm))) l3 = some (.lst ((("" : Str) :: nms c.rs).map V.str)) := by
      rw [upd_same]
      simp [nms]
    generalize upd H2 l3 (.lst ([V.str ""] ++ c.rs.map fun r => V.str r.nm)) = H3 at *
    have I3 := I.to e3
    refine ⟨l3, rfl, ⟨_, K74.SqL.of' h3⟩, ?_⟩
    refine for_list (K := K) (a := l3) (xs := (("" : Str) :: nms c.rs).map V.str) (fun i σ H' => (∃ z3 z4 z5, σ = [some (.ref a.me), some (.ref pr), some (.ref l.st), z3, z4, z5, none, none]) ∧ Ex H3 H')
      ⟨⟨_, _, _, rfl⟩, Ex.refl _⟩ (fun i σ H' _ pv => pv.2.l (K74.SqL.of' h3)) (fun i y σ H4 hy pv => ?_) (fun σ H4 pv => ?_)
    · obtain ⟨⟨z3, z4, z5, rfl⟩, e4⟩ := pv
      rw [List.getElem?_map] at hy
      obtain ⟨n, hn, rfl⟩ := Option.map_eq_some_iff.mp hy
      have hnn : n = "" ∨ n ∈ nms c.rs := List.mem_cons.mp (List.mem_of_getElem? hn)
      refine ⟨_, rfl, by decide, by decide, ?_⟩
      refine for_range (lo := 0) (n := 2) (fun i σ H' => (∃ z4 z5, σ = [some (.ref a.me), some (.ref pr), some (.ref l.st), some (.str n), z4, z5, none, none]) ∧ Ex H4 H')
        ⟨⟨_, _, rfl⟩, Ex.refl _⟩ (fun j σ H5 hj pv => ?_) (fun σ H5 pv => ?_)
      · obtain ⟨⟨z4, z5, rfl⟩, e5⟩ := pv
        have I5 := I3.to (e4.trans e5)
        refine ⟨_, rfl, a.me, _, _, rfl, I5.m.me, rfl, _, rfl, S0, a, c, v, n, rfl, I5.m, hnn, fun H6 e6 => ?_⟩
        have I6 := I5.to e6
        refine ⟨_, rfl, a.me, _, _, rfl, I6.m.me, rfl, _, rfl, S0, a, c, v, n, rfl, I6.m, hnn, fun H7 e7 => ?_⟩
        have I7 := I6.to e7
        refine ⟨by show 2 ≤ sizeLine; decide, fun q hq => ?_⟩
        have e8 := Ex.new (o := .tup [V.int (runN c.rs v.ps n), .int (chg c.rs (lvs c.rs) v.S n)]) hq
        have I8 := I7.to e8
        refine ⟨_, rfl, _, rfl, _, rfl, _, rfl, S0, l, pr, c, v, lp, n, rfl, I8.q, fun H9 e9 => ?_⟩
        have I9 := I8.to e9
        refine ⟨_, rfl, _, rfl, l.st, _, rfl, I9.q.gSz, _, rfl, pr, l.sz, n, c.rs, lvs c.rs, v.S, rfl, I9.q.Rows, hw.few, hlz, .inl I9.q.sz, fun H10 e10 => ⟨by show 2 ≤ sizeLine; decide, fun q2 hq2 => ?_⟩⟩
        have e11 := Ex.new (o := .tup [V.int (runN c.rs v.ps n), .int (chg c.rs (lvs c.rs) v.S n)]) hq2
        refine ⟨_, _, .tup (K74.SqT.of' (e11 _ _ (e10 _ _ (e9 _ _ upd_same)))) (.cons (.int _) (.cons (.int _) .nil)), .tup (K74.SqT.of' upd_same) (.cons (.int _) (.cons (.int _) .nil)), shaped_ii _ _, shaped_ii _ _, ?_⟩
        rw [show PyData.eqv (.tuple [.int (runN c.rs v.ps n), .int (chg c.rs (lvs c.rs) v.S n)]) (.tuple [.int (runN c.rs v.ps n), .int (chg c.rs (lvs c.rs) v.S n)]) = true from by simp [PyData.eqv, PyData.eqvAll]]
        exact ⟨_, rfl, ifF rfl ⟨⟨_, _, rfl⟩, (((((e5.trans e6).trans e7).trans e8).trans e9).trans e10).trans e11⟩⟩
      · obtain ⟨⟨z4, z5, rfl⟩, e5⟩ := pv
        exact ⟨⟨_, _, _, rfl⟩, e4.trans e5⟩
    · obtain ⟨⟨z3, z4, z5, rfl⟩, e4⟩ := pv
      have I4 := I3.to e4
      have nsz : l.sz ∉ mutA a := fun z => I4.ap _ z (by simp)
      refine keysS (.inl I4.q.sz) hlz (fun _ => some (V.bl true)) (fun od Hl h1 h2 Q1 q1 => ⟨_, rfl, l.st, _, rfl, (I4.q.frz h1 h2).gSz, q1⟩) (fun x od Hl H' hx h1 h2 e Q q => ?_) (fun p H2 hp e2 h2 => ?_)
      · have Ml := (I4.m.but nsz I4.q.nsz h2).to e
        have Ll := (I4.q.frz h1 h2).to e
        refine ⟨rfl, _, rfl, a.me, _, _, rfl, Ml.me, rfl, _, rfl, S0, a, c, v, x, rfl, Ml, hx, fun r1 H5 e5 m1 => ?_⟩
        refine ⟨_, rfl, _, rfl, _, rfl, S0, l, pr, c, v, x, rfl, Ll.to e5, hx, fun r2 H6 e6 m2 => ?_⟩
        have er : r1 = r2 := minV_eq (fun y => ?_) m1 m2
        · subst er
          exact minV_D m1 (q _ (e5.trans e6))
        · have e : wayU c.rs x = (wayD c.rs x).reverse := by rw [← wayU_rev, List.reverse_reverse]
          show y ∈ ((wayU c.rs x).filter _).map _ ↔ _
          rw [e]
          unfold spareL
          rw [List.filter_reverse, List.map_reverse, List.mem_reverse]
      · rw [filterMap_some] at h2
        refine ⟨p, (lvs c.rs).map fun _ => true, rfl, K74.SqL.of' (by rw [h2, List.map_map]; rfl), ?_⟩
        have : ((lvs c.rs).map fun _ => true).all id = true := by rw [List.all_map, List.all_eq_true]; intro _ _; rfl
        rw [this]
        exact k _ ((e3.trans e4).trans e2)
end
end K74
set_option Elab.async false
set_option linter.all false
set_option maxRecDepth 100000
set_option maxHeartbeats 4000000
namespace K74
open PySem PySem.Spec PyProof.Rows L2
section
variable {P : Program} {w : World} {K : PySem.W.Frag} {mg : Str → Option Value} {base : Heap}
abbrev N_l_begun : List Str := ["_law_source_here", "_law_made", "_law_rows_here", "_law_state", "_law_some", "_law_machine", "_law_one", "_law_leaf"]
abbrev P_l_begun : List Str := ["_law_source_here", "_law_made", "_law_rows_here"]
theorem sc_l_begun : FnScope N_l_begun P_l_begun (defScope s_l_begun) := C8.fnScope_by (by decide +kernel)
theorem b_l_begun {K : PySem.W.Frag} {fd : FuncData} (F : FunD K d_l_begun.name d_l_begun.qual d_l_begun.params d_l_begun.body d_l_begun.scope (d_l_begun.dvs K) (d_l_begun.kws K) (He.fAd K d_l_begun.at_) fd) : L2.Binds K fd P_l_begun [] :=
  FunD.bindsN F fun _ _ _ _ _ _ us hl => match us, hl with | [_, _, _], _ => rfl
/-- what was made since H0 -/
structure Own (H0 H : Hp) (src : Addr) (L : List Addr) : Prop where
  kp : Keep [src] H0 H
  h0 : SrcAt H0 src
  hs : SrcAt H src
  nw : ∀ b, b ∈ L → H0 b = none
  lv : ∀ b, b ∈ L → ∃ o, H b = some o
  nd : L.Nodup
section
variable {H0 H H' : Hp} {src p : Addr} {L : List Addr} {o : HO}
theorem Own.ns (h : Own H0 H src L) (hb : H p = none) : p ≠ src := fun e => by
  obtain ⟨x, y, z, q⟩ := h.hs
  rw [← e, hb] at q
  cases q
theorem Own.ns0 (h : Own H0 H src L) (hb : p ∈ L) : p ≠ src := fun e => by
  obtain ⟨x, y, z, q⟩ := h.h0
  rw [← e, h.nw p hb] at q
  cases q
theorem Own.keep (h : Own H0 H src L) (k : Keep [src] H H') (s : SrcAt H' src) : Own H0 H' src L :=
  ⟨h.kp.trans k, h.h0, s, h.nw, fun b hb => (h.lv b hb).imp fun _ q => k _ _ q (by simpa using h.ns0 hb), h.nd⟩
theorem Own.nw0 (h : Own H0 H src L) (hp : H p = none) : H0 p = none := by
  cases z : H0 p with
  | none => rfl
  | some o => rw [h.kp p o z (by simpa using h.ns hp)] at hp; cases hp
theorem Own.out (h : Own H0 H src L) (hp : H p = none) : p ∉ L := fun z => by
  obtain ⟨o, q⟩ := h.lv p z
  rw [hp] at q
  cases q
theorem Own.add (h : Own H0 H src L) (hp : H p = none) (k : Keep [src] H H') (h' : H' p = some o) (s : SrcAt H' src) : Own H0 H' src (p :: L) := by
  have h2 := h.keep k s
  refine ⟨h2.kp, h.h0, s, fun b hb => ?_, fun b hb => ?_, List.nodup_cons.mpr ⟨h.out hp, h.nd⟩⟩
  · rcases List.mem_cons.mp hb with e | e
    · rw [e]
      exact h.nw0 hp
    · exact h.nw b e
  · rcases List.mem_cons.mp hb with e | e
    · rw [e]
      exact ⟨_, h'⟩
    · exact h2.lv b e
theorem Own.mut (h : Own H0 H src L) (hp : p ∈ L) : Own H0 (upd H p o) src L := by
  have np := h.nw p hp
  have ps := h.ns0 hp
  refine ⟨fun b u hb hn => ?_, h.h0, ?_, h.nw, fun b hb => ?_, h.nd⟩
  · rw [upd_ne fun e => by rw [e, np] at hb; cases hb]
    exact h.kp b u hb hn
  · obtain ⟨x, y, z, q⟩ := h.hs
    exact ⟨x, y, z, by rw [upd_ne (Ne.symm ps)]; exact q⟩
  · by_cases e : b = p
    · rw [e]
      exact ⟨_, upd_same⟩
    · rw [upd_ne e]
      exact h.lv b hb
theorem Own.keep1 (h : Own H0 H src L) (k : Keep [p] H H') (hp : p ∈ L) (hp' : ∃ o, H' p = some o) : Own H0 H' src L := by
  have np := h.nw p hp
  have ps := h.ns0 hp
  refine ⟨fun b u hb hn => k b u (h.kp b u hb hn) (fun z => ?_), h.h0, ?_, h.nw, fun b hb => ?_, h.nd⟩
  · rw [List.mem_singleton.mp z, np] at hb
    cases hb
  · obtain ⟨x, y, z, q⟩ := h.hs
    exact ⟨x, y, z, k _ _ q (by simpa using Ne.symm ps)⟩
  · by_cases e : b = p
    · rw [e]
      exact hp'
    · exact (h.lv b hb).imp fun _ q => k _ _ q (by simpa using e)
theorem Own.adds (h : Own H0 H src L) (k : Keep [p] H H') (hp : p ∈ L) (hp' : ∃ o, H' p = some o) {M : List Addr} (hM : ∀ b, b ∈ M → H b = none ∧ ∃ o, H' b = some o) (nd : M.Nodup) : Own H0 H' src (M ++ L) := by
  have h2 := h.keep1 k hp hp'
  refine ⟨h2.kp, h.h0, h2.hs, fun b hb => ?_, fun b hb => ?_, List.nodup_append.mpr ⟨nd, h.nd, fun b hb d hd e => ?_⟩⟩
  · exact (List.mem_append.mp hb).elim (fun z => h.nw0 (hM b z).1) (h.nw b)
  · exact (List.mem_append.mp hb).elim (fun z => (hM b z).2) (h2.lv b)
  · rw [e] at hb
    exact h.out (hM d hb).1 hd
theorem nd_out {A D B : List Addr} (h : (A ++ (D ++ B)).Nodup) : (∀ b, b ∈ A ∨ b ∈ B → b ∉ D) ∧ (A ++ B).Nodup := by
  obtain ⟨h1, h2, h3⟩ := List.nodup_append.mp h
  obtain ⟨h4, h5, h6⟩ := List.nodup_append.mp h2
  refine ⟨fun b hb hd => ?_, List.nodup_append.mpr ⟨h1, h5, fun a ha b hb => h3 a ha b (List.mem_append_right _ hb)⟩⟩
  rcases hb with hb | hb
  · exact h3 b hb b (List.mem_append_left _ hd) rfl
  · exact h6 b hd b hb rfl
theorem Own.mutS {A : List Addr} {st : Addr} (h : Own H0 H src (A ++ [st])) (o : HO) : Own H0 (upd H st o) src (A ++ [st]) ∧ (upd H st o) st = some o ∧ ∀ b u, b ∈ A → H b = some u → (upd H st o) b = some u := by
  refine ⟨h.mut (List.mem_append_right _ List.mem_cons_self), upd_same, fun b u hb q => ?_⟩
  rw [upd_ne fun e => (List.nodup_append.mp h.nd).2.2 b hb st List.mem_cons_self e]
  exact q
theorem Own.nil (h : SrcAt H0 src) : Own H0 H0 src [] := ⟨fun _ _ q _ => q, h, h, fun b hb => (by cases hb), fun b hb => (by cases hb), List.nodup_nil⟩
theorem Own.new (h : Own H0 H src L) (hp : H p = none) : Own H0 (upd H p o) src (p :: L) := h.add hp (Keep.of (Ex.new hp)) upd_same (h.hs.new hp)
theorem Own.at (h : Own H0 H src L) {b : Addr} {u : HO} (k : Keep [src] H H') (hb : H b = some u) (hl : b ∈ L) : H' b = some u := k _ _ hb (by simpa using h.ns0 hl)
end
/-- all but tables and lists of three ints stay -/
def KeepG (H H' : Hp) : Prop := ∀ b o, H b = some o → (∀ ps, o ≠ .tbl ps) → (∀ x y z : Int, o ≠ .lst [.int x, .int y, .int z]) → H' b = some o
section
variable {K : PySem.W.Frag} {H H' : Hp} {src a : Addr} {xs : List V} {rs : List RowD}
theorem KeepN.g (k : KeepN [src] H H') (s : SrcAt H src) : KeepG H H' := fun b o hb h1 h2 => k b o hb (fun z => by
  obtain ⟨x, y, z', q⟩ := s
  rw [List.mem_singleton.mp z, q] at hb
  exact h2 x y z' (Option.some.inj hb).symm) h1
theorem KeepG.l (k : KeepG H H') (hx : ∀ x y z : Int, xs ≠ [.int x, .int y, .int z]) (h : SqL K H a xs) : SqL K H' a xs := by
  rcases h with h | h
  · rcases h with h | ⟨o, h⟩
    · exact .inl (.inl (k _ _ h (fun _ z => by cases z) fun x y z e => hx x y z (HO.lst.inj e)))
    · exact .inl (.inr ⟨o, k _ _ h (fun _ z => by cases z) fun x y z e => by cases e⟩)
  · exact .inr h
theorem KeepG.t (k : KeepG H H') (h : SqT K H a xs) : SqT K H' a xs := by
  rcases h with h | h
  · rcases h with h | ⟨o, h⟩
    · exact .inl (.inl (k _ _ h (fun _ z => by cases z) fun x y z e => by cases e))
    · exact .inl (.inr ⟨o, k _ _ h (fun _ z => by cases z) fun x y z e => by cases e⟩)
  · exact .inr h
theorem KeepG.rd {kvs : List (Key × V)} (k : KeepG H H') (h : Rd H a (.dK kvs)) : Rd H' a (.dK kvs) := by
  rcases h with h | ⟨o, h⟩
  · exact .inl (k _ _ h (fun _ z => by cases z) fun x y z e => by cases e)
  · exact .inr ⟨o, k _ _ h (fun _ z => by cases z) fun x y z e => by cases e⟩
theorem KeepG.row (k : KeepG H H') {v : V} {r : RowD} (h : RowR K H v r) : RowR K H' v r := by
  obtain ⟨t, cv, h1, h2, h3⟩ := h
  refine ⟨t, cv, h1, k.t h2, ?_⟩
  cases hc : r.cap with
  | none =>
    rw [hc] at h3
    exact h3
  | some q =>
    rw [hc] at h3
    obtain ⟨c, h4, h5⟩ := h3
    exact ⟨c, h4, k.t h5⟩
theorem KeepG.rows (k : KeepG H H') (h : RowsAt K H a rs) : RowsAt K H' a rs := by
  obtain ⟨tr, h1, h2, h3⟩ := h
  refine ⟨tr, k.l (fun x y z e => ?_) h1, h2, fun p hp => k.row (h3 p hp)⟩
  cases tr with
  | nil => cases e
  | cons q tr =>
    obtain ⟨t, cv, e1, _⟩ := h3 q List.mem_cons_self
    rw [List.map_cons, e1] at e
    have := (List.cons.inj e).1
    cases this
theorem KeepG.tree (k : KeepG H H') (h : TreeAt K H a rs) : TreeAt K H' a rs := by
  obtain ⟨dx, ln, bn, bl, bnk, blk, h1, h2, h3, h4, h5, h6, h7⟩ := h
  refine ⟨dx, ln, bn, bl, bnk, blk, k _ _ h1 (fun _ z => by cases z) (fun x y z e => by cases e), k.rows h2, k.rd h3, fun r hr => (h4 r hr).imp fun v h => ⟨h.1, k.row h.2⟩, h5, k.rd h6, fun n hn => (h7 n hn).imp fun z h => ⟨h.1, k.l (fun x y z e => ?_) h.2⟩⟩
  cases hk : kids (prs rs) n with
  | nil =>
    rw [hk] at e
    cases e
  | cons q qs =>
    rw [hk] at e
    have := (List.cons.inj e).1
    cases this
end
/-- the allocated addresses of a machine and the law's own -/
abbrev allA (a : MA) (l : LA) : List Addr := [a.mt, a.mp, a.sf, a.pl, a.sz, a.me, l.mo, l.sz, l.pl, l.kp, l.lim, l.st]
structure Born (K : PySem.W.Frag) (H H' : Hp) (src tr : Addr) (rs : List RowD) (a : MA) (l : LA) (c : MC) : Prop where
  keep : Keep [src] H H'
  hs : SrcAt H' src
  rs : c.rs = rs
  tr : a.tr = tr
  ok : McOk c
  me : H' a.me = some (.ins (He.ga K "Machine") a.dx (mF a 0))
  mt : H' a.mt = some (.dK (fm c.tn c.tS))
  mp : H' a.mp = some (.dK (fm c.pn c.pS))
  sf : H' a.sf = some (.dK (fm c.sn c.sS))
  pl : H' a.pl = some (.dK [])
  sz : H' a.sz = some (.dK (fm (nms c.rs) fun _ => 0))
  st : H' l.st = some (.dK (lF l 0))
  lim : H' l.lim = some (.dK (fm c.pn c.pS))
  kp : H' l.kp = some (.dK (fm c.sn c.sS))
  lpl : H' l.pl = some (.dK [])
  lsz : H' l.sz = some (.dK (fm (lvs c.rs) fun _ => 0))
  mo : H' l.mo = some (.dK (fm c.tn c.tS))
  new : ∀ b, b ∈ allA a l → H b = none
  nd : (allA a l).Nodup
def spBegun (K : PySem.W.Frag) : Sp := fun vs H Q _ => ∃ (src tr pr : Addr) (rs : List RowD), vs = [.ref src, .ref tr, .ref pr] ∧ SrcAt H src ∧ TreeAt K H tr rs ∧ RowsAt K H pr rs ∧ WfD rs ∧
  ∀ a l c t H', Born K H H' src tr rs a l c → H t = none → SqT K H' t [.ref a.me, .ref l.st] → Q (.ref t) H'
theorem ok_l_begun (T : Tx K mg) : Has P w K mg base CX0 5 d_l_begun P_l_begun (spBegun K) := by
  have H_l_limits : Has P w K mg base CX0 4 d_l_limits P_l_limits (spLimits K) := ok_l_limits T
  have H_l_kept_pages : Has P w K mg base CX0 4 d_l_kept_pages P_l_kept_pages (spKept K) := ok_l_kept_pages T
  have H_l_most : Has P w K mg base CX0 4 d_l_most P_l_most (spMost K) := ok_l_most T
  have H_l_leaves : Has P w K mg base CX0 1 d_l_leaves P_l_leaves (spLeaves K) := ok_l_leaves T
  have H_Machine_init : Has P w K mg base CX0 3 d_Machine_init P_Machine_init (spMachineInit K) := ok_Machine_init T
  refine has0 T _ at_d_l_begun sc_l_begun (fun fd F => b_l_begun F) (fun vs H Q E h => ?_) (fun cdv A outer s H vs Q E hr h => ?_)
  · obtain ⟨src, tr, pr, rs, rfl, _⟩ := h
    rfl
  · obtain ⟨src, tr, pr, rs, rfl, hs, hT, hR, hw, k⟩ := h
    have hu := hu_of hr
    have nd := sc_l_begun.nd
    refine ⟨_, (pss_cons (ps_set (i := 3) nd rfl (Or.inl rfl) (pe_disp (pps_cons pe_str (pe_cl H_l_limits hr (by first | decide | omega) T.g_l_limits pass0 (pa_cons (pv 0) (pa_cons (pv 2) pa_nil))) (pps_cons pe_str (pe_cl H_l_kept_pages hr (by first | decide | omega) T.g_l_kept_pages pass0 (pa_cons (pv 0) (pa_cons (pv 2) pa_nil))) (pps_cons pe_str pe_dnewK (pps_cons pe_str pe_int pps_nil)))) (by rfl) (by rfl) (fun z => by cases z) (by decide)))
        (pss_cons (ps_dput hu (pv 3) pe_str (pe_callTy (call_dictP rfl) (by rfl) T.z_dict (by decide +kernel) (pa_cons (pe_lc (own := [("_law_leaf", 7)]) (g := gName 7) (tt := tYes) rfl nd (pi_list (pe_cl H_l_leaves hr (by first | decide | omega) T.g_l_leaves pass0 (pa_cons (pv 2) pa_nil))) (blkOk_by (N := N_l_begun) (sc := defScope s_l_begun) (by decide +kernel)) (fun _ _ _ _ _ => pg_name (i := 7) nd rfl (Or.inl rfl)) (fun _ _ _ _ _ => pts_nil) (fun _ _ _ _ _ => (pe_tup (pa_cons (pv 7) (pa_cons pe_int pa_nil))))) pa_nil)) rfl)
        (pss_cons (ps_dput hu (pv 3) pe_str (pe_cl H_l_most hr (by first | decide | omega) T.g_l_most pass0 (pa_cons (pv 0) (pa_cons (pv 2) pa_nil))) rfl)
        (pss_cons (ps_set (i := 4) nd rfl (Or.inl rfl) (pe_lst (pa_cons (pe_callTy call_dictD (by rfl) T.z_dict (by decide +kernel) (pa_cons (pe_dget hu (pv 3) pe_str (fun _ _ => rfl)) pa_nil)) (pa_cons (pe_callTy call_dictD (by rfl) T.z_dict (by decide +kernel) (pa_cons (pe_dget hu (pv 3) pe_str (fun _ _ => rfl)) pa_nil)) (pa_cons (pe_callTy call_dictD (by rfl) T.z_dict (by decide +kernel) (pa_cons (pe_dget hu (pv 3) pe_str (fun _ _ => rfl)) pa_nil)) pa_nil)))))
        (pss_cons (ps_set (i := 5) nd rfl (Or.inl rfl) (pe_mk T.k_Machine H_Machine_init hr (by first | decide | omega) T.g_Machine (pa_cons (pv 1) (pa_cons (pe_ix (ixL K rfl) (pv 4) pe_int (fun _ _ => rfl)) (pa_cons (pe_ix (ixL K rfl) (pv 4) pe_int (fun _ _ => rfl)) (pa_cons (pe_ix (ixL K rfl) (pv 4) pe_int (fun _ _ => rfl)) pa_nil))))))
        (pss_cons (ps_dput hu (pv 3) pe_str (pe_cmpR (opEqU K rfl hr.units) (pv 4) (pe_lst (pa_cons (pe_dget hu (pv 3) pe_str (fun _ _ => rfl)) (pa_cons (pe_dget hu (pv 3) pe_str (fun _ _ => rfl)) (pa_cons (pe_dget hu (pv 3) pe_str (fun _ _ => rfl)) pa_nil)))) (nomark _)) rfl)
        (pss_cons (ps_for PassesOwn.never rfl (pi_list (pv 4)) (pg_name (i := 6) nd rfl (Or.inl rfl))
          (pss_one (ps_expr (pe_bm0 PySem.F.plainAttrs_dict PySem.F.slot_dict_clear PySem.F.type_dict_clear mtd_clear (pv 6)))))
        (pss_one (ps_ret (pe_tup (pa_cons (pv 5) (pa_cons (pv 3) pa_nil)))))))))))), ?_⟩
    have O0 := Own.nil hs
    refine fun st hst => ?_
    have O1 := O0.new (o := .dK []) hst
    have RW : ∀ {Hx : Hp} {L : List Addr}, Own H Hx src L → RowsAt K Hx pr rs := fun o => ((KeepN.of o.kp).g hs).rows hR
    have TW : ∀ {Hx : Hp} {L : List Addr}, Own H Hx src L → TreeAt K Hx tr rs := fun o => ((KeepN.of o.kp).g hs).tree hT
    have s1 : (upd H st (.dK [])) st = some (.dK []) := upd_same
    refine ⟨_, rfl, _, rfl, src, pr, rs, rfl, O1.hs, RW O1, hw, fun lim H2 ls lS hlim k2 c2 h2 nd2 sub2 bd2 => ?_⟩
    have O2 := O1.add hlim k2 h2 c2
    replace s1 := O1.at k2 s1 (by simp)
    refine ⟨_, rfl, _, rfl, src, pr, rs, rfl, O2.hs, RW O2, hw, fun kp H3 ks kS hkp k3 c3 h3 nd3 sub3 bd3 => ?_⟩
    have O3 := O2.add hkp k3 h3 c3
    replace s1 := O2.at k3 s1 (by simp)
    replace h2 := O2.at k3 h2 (by simp)
    refine fun pl hpl => ?_
    have O4 := O3.new (o := .dK []) hpl
    have e4 := Ex.new (o := .dK []) hpl
    replace s1 := e4 _ _ s1
    replace h2 := e4 _ _ h2
    replace h3 := e4 _ _ h3
    have h4 : (upd H3 pl (.dK [])) pl = some (.dK []) := upd_same
    generalize upd H3 pl (.dK []) = H4 at *
    refine ⟨s1, [(Sum.inr "limits", .ref lim), (Sum.inr "kept", .ref kp), (Sum.inr "places", .ref pl), (Sum.inr "many", .int 0)], rfl, (by show 4 ≤ 15; decide), ?_⟩
    have O5 := O4.mut (p := st) (o := .dK [(Sum.inr "limits", .ref lim), (Sum.inr "kept", .ref kp), (Sum.inr "places", .ref pl), (Sum.inr "many", .int 0)]) (by simp)
    have s5 : (upd H4 st (.dK [(Sum.inr "limits", .ref lim), (Sum.inr "kept", .ref kp), (Sum.inr "places", .ref pl), (Sum.inr "many", .int 0)])) st = some (.dK [(Sum.inr "limits", .ref lim), (Sum.inr "kept", .ref kp), (Sum.inr "places", .ref pl), (Sum.inr "many", .int 0)]) := upd_same
    show gName 3 _ [some (.ref src), some (.ref tr), some (.ref pr), none, none, none, none, none] (upd H4 st (.dK [(Sum.inr "limits", .ref lim), (Sum.inr "kept", .ref kp), (Sum.inr "places", .ref pl), (Sum.inr "many", .int 0)])) _
    have nst : ∀ {b : Addr} {o : HO}, b ∈ [pl, kp, lim] → H4 b = some o → (upd H4 st (.dK [(Sum.inr "limits", .ref lim), (Sum.inr "kept", .ref kp), (Sum.inr "places", .ref pl), (Sum.inr "many", .int 0)])) b = some o := fun hb h => by
      rw [upd_ne fun e => ?_]
      · exact h
      · have := O4.nd
        rw [e] at hb
        simp at this hb
        rcases hb with e | e | e <;> simp_all
    replace h2 := nst (by simp) h2
    replace h3 := nst (by simp) h3
    replace h4 := nst (by simp) h4
    clear nst s1
    generalize upd H4 st (.dK [(Sum.inr "limits", .ref lim), (Sum.inr "kept", .ref kp), (Sum.inr "places", .ref pl), (Sum.inr "many", .int 0)]) = H5 at *
    refine ⟨_, rfl, pr, rs, rfl, RW O5, hw.few, fun pv H6 hpv e6 h6 => ?_⟩
    refine ⟨pv, rfl, ⟨_, K74.SqL.of' h6⟩, fun D hD => ?_⟩
    refine lc_rep (lvs rs) V.str (PairR K) (fun _ _ _ _ e h => h.keep e) (fun x => some (x, (0 : Int))) hD (K74.SqL.of' h6) (by have := lvs_len rs; have := hw.few; omega) (fun i b H' hb e Q q => ⟨rfl, _, rfl, by show 2 ≤ sizeLine; decide, fun t2 ht2 => q (some (.ref t2)) _ (Ex.new ht2) ⟨.ref t2, rfl, t2, rfl, K74.SqT.of' upd_same⟩⟩) (fun H7 ys e7 h7 r7 => ?_)
    rw [filterMap_some] at r7
    obtain ⟨ps, rfl, hp⟩ := paired_of r7
    refine ⟨D, ps, _, rfl, K74.SqL.of' h7, hp, fun sz hsz => ?_⟩
    have hfm : mergeK [] (((lvs rs).map fun x => (x, (0 : Int))).map fun p => ((Sum.inr p.1 : Key), V.int p.2)) = fm (lvs rs) fun _ => 0 := by
      rw [List.map_map]
      exact fm_mergeNil (S := fun _ => 0) (lvs_nodup hw)
    rw [hfm]
    have e57 := e6.trans e7
    have O7 := O5.keep (Keep.of e57) (O5.hs.ex e57)
    have O8 := O7.new (o := .dK (fm (lvs rs) fun _ => 0)) hsz
    have e8 := e57.trans (Ex.new (o := .dK (fm (lvs rs) fun _ => 0)) hsz)
    have s8 := e8 _ _ s5
    refine ⟨_, rfl, st, _, rfl, DPut.k (k := Sum.inr "sizes") s8 (by show 4 < sizeLine; decide), ?_⟩
    have hz8 : (upd H7 sz (.dK (fm (lvs rs) fun _ => 0))) sz = some (.dK (fm (lvs rs) fun _ => 0)) := upd_same
    obtain ⟨O9, s9, c9⟩ := O8.mutS (A := [sz, pl, kp, lim]) (.dK [(Sum.inr "limits", .ref lim), (Sum.inr "kept", .ref kp), (Sum.inr "places", .ref pl), (Sum.inr "many", .int 0), (Sum.inr "sizes", .ref sz)])
    replace h2 := c9 _ _ (by simp) (e8 _ _ h2)
    replace h3 := c9 _ _ (by simp) (e8 _ _ h3)
    replace h4 := c9 _ _ (by simp) (e8 _ _ h4)
    replace hz8 := c9 _ _ (by simp) hz8
    show tSeq _ _ _ [some (.ref src), some (.ref tr), some (.ref pr), some (.ref st), none, none, none, none] (upd (upd H7 sz (.dK (fm (lvs rs) fun _ => 0))) st (.dK [(Sum.inr "limits", .ref lim), (Sum.inr "kept", .ref kp), (Sum.inr "places", .ref pl), (Sum.inr "many", .int 0), (Sum.inr "sizes", .ref sz)]))
    clear hsz s8 O7 O8 c9 e8
    generalize upd (upd H7 sz (.dK (fm (lvs rs) fun _ => 0))) st (.dK [(Sum.inr "limits", .ref lim), (Sum.inr "kept", .ref kp), (Sum.inr "places", .ref pl), (Sum.inr "many", .int 0), (Sum.inr "sizes", .ref sz)]) = H9 at *
    refine ⟨_, rfl, _, rfl, src, pr, rs, rfl, O9.hs, RW O9, hw, fun mo H10 ms mS hmo k10 c10 h10 nd10 sub10 bd10 => ?_⟩
    have O10 := O9.add hmo k10 h10 c10
    have s10 := O9.at k10 s9 (by simp)
    refine ⟨_, rfl, st, _, rfl, DPut.k (k := Sum.inr "most") s10 (by show 5 < sizeLine; decide), ?_⟩
    obtain ⟨O11, s11, c11⟩ := O10.mutS (A := [mo, sz, pl, kp, lim]) (.dK [(Sum.inr "limits", .ref lim), (Sum.inr "kept", .ref kp), (Sum.inr "places", .ref pl), (Sum.inr "many", .int 0), (Sum.inr "sizes", .ref sz), (Sum.inr "most", .ref mo)])
    replace h2 := c11 _ _ (by simp) (O9.at k10 h2 (by simp))
    replace h3 := c11 _ _ (by simp) (O9.at k10 h3 (by simp))
    replace h4 := c11 _ _ (by simp) (O9.at k10 h4 (by simp))
    replace hz8 := c11 _ _ (by simp) (O9.at k10 hz8 (by simp))
    replace h10 := c11 _ _ (by simp) h10
    show tSeq _ _ _ [some (.ref src), some (.ref tr), some (.ref pr), some (.ref st), none, none, none, none] (upd H10 st (.dK [(Sum.inr "limits", .ref lim), (Sum.inr "kept", .ref kp), (Sum.inr "places", .ref pl), (Sum.inr "many", .int 0), (Sum.inr "sizes", .ref sz), (Sum.inr "most", .ref mo)]))
    clear s10 O10 c11
    generalize upd H10 st (.dK [(Sum.inr "limits", .ref lim), (Sum.inr "kept", .ref kp), (Sum.inr "places", .ref pl), (Sum.inr "many", .int 0), (Sum.inr "sizes", .ref sz), (Sum.inr "most", .ref mo)]) = Ha at *
    -- the dicts handed in
    refine ⟨_, rfl, st, _, rfl, .inl ⟨_, Sum.inr "most", .inl s11, rfl, rfl⟩, mo, _, rfl, .inl h10, fun d1 hd1 => ?_⟩
    have ea := Ex.new (o := .dK (fm ms mS)) hd1
    refine ⟨_, rfl, st, _, rfl, .inl ⟨_, Sum.inr "limits", .inl (ea _ _ s11), rfl, rfl⟩, lim, _, rfl, .inl (ea _ _ h2), fun d2 hd2 => ?_⟩
    have eb := Ex.new (o := .dK (fm ls lS)) hd2
    refine ⟨_, rfl, st, _, rfl, .inl ⟨_, Sum.inr "kept", .inl (eb _ _ (ea _ _ s11)), rfl, rfl⟩, kp, _, rfl, .inl (eb _ _ (ea _ _ h3)), fun d3 hd3 => ?_⟩
    have ec := Ex.new (o := .dK (fm ks kS)) hd3
    refine ⟨by show 3 ≤ sizeLine; decide, fun sm hsm => ?_⟩
    have ed := Ex.new (o := .lst [V.ref d1, .ref d2, .ref d3]) hsm
    have Ob := (((O11.new (o := .dK (fm ms mS)) hd1).new (o := .dK (fm ls lS)) hd2).new (o := .dK (fm ks kS)) hd3).new (o := .lst [V.ref d1, .ref d2, .ref d3]) hsm
    have g1 := ed _ _ (ec _ _ (eb _ _ (upd_same (a := d1) (o := .dK (fm ms mS)) (H := Ha))))
    have g2 := ed _ _ (ec _ _ (upd_same (a := d2) (o := .dK (fm ls lS)) (H := upd Ha d1 (.dK (fm ms mS)))))
    have g3 := ed _ _ (upd_same (a := d3) (o := .dK (fm ks kS)) (H := upd (upd Ha d1 (.dK (fm ms mS))) d2 (.dK (fm ls lS))))
    have g4 : (upd (upd (upd (upd Ha d1 (.dK (fm ms mS))) d2 (.dK (fm ls lS))) d3 (.dK (fm ks kS))) sm (.lst [V.ref d1, .ref d2, .ref d3])) sm = some (.lst [V.ref d1, .ref d2, .ref d3]) := upd_same
    have ee := ((ea.trans eb).trans ec).trans ed
    replace s11 := ee _ _ s11
    replace h2 := ee _ _ h2
    replace h3 := ee _ _ h3
    replace h4 := ee _ _ h4
    replace hz8 := ee _ _ hz8
    replace h10 := ee _ _ h10
    show tSeq _ _ _ [some (.ref src), some (.ref tr), some (.ref pr), some (.ref st), some (.ref sm), none, none, none] (upd (upd (upd (upd Ha d1 (.dK (fm ms mS))) d2 (.dK (fm ls lS))) d3 (.dK (fm ks kS))) sm (.lst [V.ref d1, .ref d2, .ref d3]))
    clear ea eb ec ed ee hd1 hd2 hd3 hsm
    generalize upd (upd (upd (upd Ha d1 (.dK (fm ms mS))) d2 (.dK (fm ls lS))) d3 (.dK (fm ks kS))) sm (.lst [V.ref d1, .ref d2, .ref d3]) = Hb at *
    have ok : McOk ⟨rs, ms, mS, ls, lS, ks, kS⟩ := ⟨hw, fun n hn => ⟨List.mem_cons.mp (sub10 n hn), (bd10 n hn).1⟩, fun n hn => ⟨List.mem_cons.mp (sub2 n hn), (bd2 n hn).1⟩, fun n hn => ⟨sub3 n hn, (bd3 n hn).1⟩⟩
    refine ⟨_, rfl, _, rfl, sm, _, 0, .ref d1, rfl, rfl, K74.SqL.of' g4, rfl, _, rfl, sm, _, 1, .ref d2, rfl, rfl, K74.SqL.of' g4, rfl, _, rfl, sm, _, 2, .ref d3, rfl, rfl, K74.SqL.of' g4, rfl, fun me dx hme hdx hne => ?_⟩
    have ex := Ex.new (o := .own me) hdx
    have hme2 : (upd Hb dx (.own me)) me = none := by rw [upd_ne (Ne.symm hne)]; exact hme
    have ey := ex.trans (Ex.new (o := .ins (He.ga K "Machine") dx []) hme2)
    have Oc := (Ob.new (o := .own me) hdx).new (o := .ins (He.ga K "Machine") dx []) hme2
    refine ⟨me, dx, tr, d1, d2, d3, ⟨rs, ms, mS, ls, lS, ks, kS⟩, rfl, upd_same, TW Oc, ok, ey _ _ g1, ey _ _ g2, ey _ _ g3, fun a Hd ea edx etr N => ⟨rfl, ?_⟩⟩
    subst ea edx
    have nme : ∀ {b : Addr} {u : HO}, Hb b = some u → Hd b = some u := fun {b u} q => N.keep _ _ (ey _ _ q) (by
      intro z
      rw [List.mem_singleton.mp z, hme] at q
      cases q)
    have Od := Oc.adds (M := [a.mt, a.mp, a.sf, a.pl, a.sz]) N.keep (by simp) ⟨_, N.me⟩ (fun b hb => ⟨(N.new b hb).1, ?_⟩) N.nd
    · replace s11 := nme s11
      replace h2 := nme h2
      replace h3 := nme h3
      replace h4 := nme h4
      replace hz8 := nme hz8
      replace h10 := nme h10
      replace g1 := nme g1
      replace g2 := nme g2
      replace g3 := nme g3
      replace g4 := nme g4
      have M1 := N.me
      have M2 := N.mt
      have M3 := N.mp
      have M4 := N.sf
      have M5 := N.pl
      have M6 := N.sz
      show tSeq _ _ _ [some (.ref src), some (.ref tr), some (.ref pr), some (.ref st), some (.ref sm), some (.ref a.me), none, none] Hd
      refine ⟨_, rfl, _, rfl, st, _, rfl, .inl ⟨_, Sum.inr "most", .inl s11, rfl, rfl⟩, _, rfl, st, _, rfl, .inl ⟨_, Sum.inr "limits", .inl s11, rfl, rfl⟩, _, rfl, st, _, rfl, .inl ⟨_, Sum.inr "kept", .inl s11, rfl, rfl⟩, by show 3 ≤ sizeLine; decide, fun q hq => .inr ⟨2, by decide, .inl ⟨sm, q, _, _, rfl, rfl, K74.SqL.of' ((Ex.new hq) _ _ g4), K74.SqL.of' upd_same, ?_⟩, ?_⟩⟩
      · exact .cons (.inr (.inr (eqR_fm 0 ((Ex.new hq) _ _ g1) ((Ex.new hq) _ _ h10)))) (.cons (.inr (.inr (eqR_fm 0 ((Ex.new hq) _ _ g2) ((Ex.new hq) _ _ h2)))) (.cons (.inr (.inr (eqR_fm 0 ((Ex.new hq) _ _ g3) ((Ex.new hq) _ _ h3)))) .nil))
      refine ⟨_, rfl, st, _, rfl, DPut.k (k := Sum.inr "is_kept") ((Ex.new hq) _ _ s11) (by show 6 < sizeLine; decide), ?_⟩
      have en := Ex.new (o := .lst [V.ref mo, .ref lim, .ref kp]) hq
      have Oe := Od.new (o := .lst [V.ref mo, .ref lim, .ref kp]) hq
      obtain ⟨Of, sf, cf⟩ := Oe.mutS (A := [q, a.mt, a.mp, a.sf, a.pl, a.sz, a.me, a.dx, sm, d3, d2, d1, mo, sz, pl, kp, lim]) (.dK (lF ⟨st, lim, kp, pl, sz, mo⟩ 0))
      have cc : ∀ b u, b ∈ [q, a.mt, a.mp, a.sf, a.pl, a.sz, a.me, a.dx, sm, d3, d2, d1, mo, sz, pl, kp, lim] → Hd b = some u → (upd (upd Hd q (.lst [V.ref mo, .ref lim, .ref kp])) st (.dK (lF ⟨st, lim, kp, pl, sz, mo⟩ 0))) b = some u := fun b u hb h => cf b u hb (en _ _ h)
      show tSeq _ _ _ [some (.ref src), some (.ref tr), some (.ref pr), some (.ref st), some (.ref sm), some (.ref a.me), none, none] (upd (upd Hd q (.lst [V.ref mo, .ref lim, .ref kp])) st (.dK (lF ⟨st, lim, kp, pl, sz, mo⟩ 0)))
      replace h2 := cc _ _ (by simp) h2
      replace h3 := cc _ _ (by simp) h3
      replace h4 := cc _ _ (by simp) h4
      replace hz8 := cc _ _ (by simp) hz8
      replace h10 := cc _ _ (by simp) h10
      replace g1 := cc _ _ (by simp) g1
      replace g2 := cc _ _ (by simp) g2
      replace g3 := cc _ _ (by simp) g3
      replace g4 := cc _ _ (by simp) g4
      replace M1 := cc _ _ (by simp) M1
      replace M2 := cc _ _ (by simp) M2
      replace M3 := cc _ _ (by simp) M3
      replace M4 := cc _ _ (by simp) M4
      replace M5 := cc _ _ (by simp) M5
      replace M6 := cc _ _ (by simp) M6
      clear cf cc en hq Oe Od
      generalize upd (upd Hd q (.lst [V.ref mo, .ref lim, .ref kp])) st (.dK (lF ⟨st, lim, kp, pl, sz, mo⟩ 0)) = He at *
      obtain ⟨nout, nall⟩ := nd_out (A := [q, a.mt, a.mp, a.sf, a.pl, a.sz, a.me, a.dx, sm]) (D := [d3, d2, d1]) (B := [mo, sz, pl, kp, lim, st]) Of.nd
      refine ⟨_, rfl, sm, rfl, ⟨_, K74.SqL.of' g4⟩, ?_⟩
      refine for_list (K := K) (a := sm) (xs := [V.ref d1, .ref d2, .ref d3]) (fun i σ H' => (∃ z6, σ = [some (.ref src), some (.ref tr), some (.ref pr), some (.ref st), some (.ref sm), some (.ref a.me), z6, none]) ∧ Keep [d3, d2, d1] He H' ∧ Own H H' src ([q, a.mt, a.mp, a.sf, a.pl, a.sz, a.me, a.dx, sm] ++ ([d3, d2, d1] ++ [mo, sz, pl, kp, lim, st])) ∧ ∀ d, d ∈ [d1, d2, d3] → ∃ kvs, H' d = some (.dK kvs))
        ⟨⟨_, rfl⟩, fun _ _ h _ => h, Of, fun d hd => ?_⟩ (fun i σ H' _ pv => K74.SqL.of' (pv.2.1 _ _ g4 (nout _ (.inl (by simp))))) (fun i y σ H' hy pv => ?_) (fun σ H' pv => ?_)
      · simp only [List.mem_cons, List.mem_nil_iff, or_false] at hd
        rcases hd with rfl | rfl | rfl
        · exact ⟨_, g1⟩
        · exact ⟨_, g2⟩
        · exact ⟨_, g3⟩
      · obtain ⟨⟨z6, rfl⟩, kk, oo, dd⟩ := pv
        obtain ⟨d, hd, rfl⟩ : ∃ d, d ∈ [d1, d2, d3] ∧ y = .ref d := by
          have := List.mem_of_getElem? hy
          simp only [List.mem_cons, List.mem_nil_iff, or_false] at this
          rcases this with e | e | e
          · exact ⟨d1, by simp, e⟩
          · exact ⟨d2, by simp, e⟩
          · exact ⟨d3, by simp, e⟩
        obtain ⟨kvs, hk⟩ := dd d hd
        have hd' : d ∈ [d3, d2, d1] := by
          simp only [List.mem_cons, List.mem_nil_iff, or_false] at hd ⊢
          rcases hd with e | e | e <;> simp [e]
        refine ⟨_, rfl, .inr (.inr (.inl ⟨rfl, .inl ⟨_, hk⟩⟩)), d, kvs, rfl, rfl, hk, ⟨_, rfl⟩, kk.trans ((Keep.upd _).mono fun b hb => by rw [List.mem_singleton.mp hb]; exact hd'), oo.mut (List.mem_append_right _ (List.mem_append_left _ hd')), fun b hb => ?_⟩
        by_cases e : b = d
        · rw [e]
          exact ⟨_, upd_same⟩
        · rw [upd_ne e]
          exact dd b hb
      · obtain ⟨⟨z6, rfl⟩, kk, oo, dd⟩ := pv
        refine ⟨_, rfl, _, rfl, by show 2 ≤ sizeLine; decide, fun t ht => ?_⟩
        have et := Ex.new (o := .tup [V.ref a.me, .ref st]) ht
        have fin : ∀ {b : Addr} {u : HO}, (b ∈ [q, a.mt, a.mp, a.sf, a.pl, a.sz, a.me, a.dx, sm] ∨ b ∈ [mo, sz, pl, kp, lim, st]) → He b = some u → (upd H' t (.tup [V.ref a.me, .ref st])) b = some u := fun hb h => et _ _ (kk _ _ h (nout _ hb))
        have nw : ∀ b, b ∈ [q, a.mt, a.mp, a.sf, a.pl, a.sz, a.me, a.dx, sm] ++ [mo, sz, pl, kp, lim, st] → H b = none := fun b hb => oo.nw b ((List.mem_append.mp hb).elim (fun z => List.mem_append_left _ z) fun z => List.mem_append_right _ (List.mem_append_right _ z))
        refine k a ⟨st, lim, kp, pl, sz, mo⟩ ⟨rs, ms, mS, ls, lS, ks, kS⟩ t _ ⟨oo.kp.exL et, oo.hs.ex et, rfl, etr, ok, fin (by simp) M1, fin (by simp) M2, fin (by simp) M3, fin (by simp) M4, fin (by simp) M5, fin (by simp) M6, fin (by simp) sf, fin (by simp) h2, fin (by simp) h3, fin (by simp) h4, fin (by simp) hz8, fin (by simp) h10, fun b hb => nw b ?_, ?_⟩ (oo.nw0 ht) (K74.SqT.of' upd_same)
        · simp only [List.mem_cons, List.mem_nil_iff, or_false, List.mem_append] at hb ⊢
          rcases hb with e | e | e | e | e | e | e | e | e | e | e | e <;> simp [e]
        · exact List.Sublist.nodup (.cons _ (.cons₂ _ (.cons₂ _ (.cons₂ _ (.cons₂ _ (.cons₂ _ (.cons₂ _ (.cons _ (.cons _ (List.Sublist.refl _)))))))))) nall
    · simp only [List.mem_cons, List.mem_nil_iff, or_false] at hb
      rcases hb with e | e | e | e | e <;> rw [e]
      · exact ⟨_, N.mt⟩
      · exact ⟨_, N.mp⟩
      · exact ⟨_, N.sf⟩
      · exact ⟨_, N.pl⟩
      · exact ⟨_, N.sz⟩
end
end K74
set_option Elab.async false
set_option linter.all false
set_option maxRecDepth 100000
set_option maxHeartbeats 4000000
namespace K74
open PySem PySem.Spec PyProof.Rows L2
section
variable {P : Program} {w : World} {K : PySem.W.Frag} {mg : Str → Option Value} {base : Heap}
/-! Rows compared; a machine just made; two machines. -/
def capD : Option (Int × Int) → PyData
  | none => .none
  | some q => .tuple [.int q.1, .int q.2]
def rowD (r : RowD) : PyData := .tuple [.str r.nm, .str r.par, .int r.wt, capD r.cap]
theorem row_dp {K : PySem.W.Frag} {H : Hp} {v : V} {r : RowD} (h : RowR K H v r) : Dp K H v (rowD r) := by
  obtain ⟨t, cv, rfl, h2, h3⟩ := h
  refine .tup h2 (.cons (.str _) (.cons (.str _) (.cons (.int _) (.cons ?_ .nil))))
  cases hc : r.cap with
  | none =>
    rw [hc] at h3
    rw [show cv = .non from h3]
    exact .non
  | some q =>
    rw [hc] at h3
    obtain ⟨c, rfl, h5⟩ := h3
    exact .tup h5 (.cons (.int _) (.cons (.int _) .nil))
theorem rows_dp {K : PySem.W.Frag} {H : Hp} : ∀ {ys : List V} {rs : List RowD}, Reps (RowR K) H ys rs → DpAll K H ys (rs.map rowD) := by
  rintro ys rs ⟨tr, rfl, rfl, h⟩
  induction tr with
  | nil => exact .nil
  | cons q tr ih => exact .cons (row_dp (h q List.mem_cons_self)) (ih fun p hp => h p (List.mem_cons_of_mem _ hp))
theorem row_lay {r : RowD} (h1 : PyData.strOk r.nm = true) (h2 : PyData.strOk r.par = true) : (rowD r).canLay0 = true ∧ (rowD r).depth ≤ 2 := by
  unfold rowD
  cases r.cap with
  | none => exact ⟨by simp [PyData.canLay0, PyData.canLayAll0, capD, h1, h2], by simp [PyData.depth, PyData.depthAll, capD]⟩
  | some q => exact ⟨by simp [PyData.canLay0, PyData.canLayAll0, capD, h1, h2], by simp [PyData.depth, PyData.depthAll, capD]⟩
theorem rows_lay : ∀ {rs : List RowD}, (∀ r, r ∈ rs → PyData.strOk r.nm = true ∧ PyData.strOk r.par = true) → PyData.canLayAll0 (rs.map rowD) = true ∧ PyData.depthAll (rs.map rowD) ≤ 2
  | [], _ => ⟨by simp [PyData.canLayAll0], by simp [PyData.depthAll]⟩
  | r :: rs, h => by
    obtain ⟨h1, h2⟩ := row_lay (h r List.mem_cons_self).1 (h r List.mem_cons_self).2
    obtain ⟨h3, h4⟩ := rows_lay fun q hq => h q (List.mem_cons_of_mem _ hq)
    exact ⟨by simp [PyData.canLayAll0, h1, h3], by simp only [List.map_cons, PyData.depthAll]; omega⟩
theorem rows_eq {K : PySem.W.Frag} {H : Hp} {p1 p2 : Addr} {ys1 ys2 : List V} {rs : List RowD} {Q : VK} (hw : WfD rs) (h1 : SqL K H p1 ys1) (r1 : Reps (RowR K) H ys1 rs) (h2 : SqL K H p2 ys2) (r2 : Reps (RowR K) H ys2 rs) (q : Q (.bl true) H) : rEqD K (.ref p1) (.ref p2) H Q := by
  obtain ⟨l1, l2⟩ := rows_lay (rs := rs) fun r hr => ⟨(hw.nameOk (List.mem_map.mpr ⟨r, hr, rfl⟩)).str, (hw.par_in hr).elim (fun e => by rw [e]; decide +kernel) fun z => (hw.nameOk z).str⟩
  have hl : PyData.canLay0 (.list (rs.map rowD)) = true := by simpa only [PyData.canLay0] using l1
  have hs : SeqAt.shaped (.list (rs.map rowD)) = true := by
    show (PyData.canLay0 (.list (rs.map rowD)) && decide (PyData.depth (.list (rs.map rowD)) ≤ 64)) = true
    rw [Bool.and_eq_true]
    exact ⟨hl, decide_eq_true (by simp only [PyData.depth]; omega)⟩
  refine ⟨.list (rs.map rowD), .list (rs.map rowD), .lst h1 (rows_dp r1), .lst h2 (rows_dp r2), hs, hs, ?_⟩
  rw [SeqAt.eqv_refl _ hl]
  exact q
/-! ### a machine just made -/
def v0 : MV := ⟨[], 0, fun _ => 0⟩
theorem v0_ok (c : MC) : MvOk c v0 := ⟨List.nodup_nil, fun p h => (by cases h), fun p h => (by cases h), Int.le_refl _, Nat.zero_le _, fun _ => Int.le_refl _, fun _ _ => rfl, fun _ => by show (0 : Int) < 10 ^ 60; decide⟩
/-- what stands of a machine and the law's own, just made -/
structure Fresh (K : PySem.W.Frag) (H : Hp) (a : MA) (l : LA) (c : MC) : Prop where
  me : H a.me = some (.ins (He.ga K "Machine") a.dx (mF a 0))
  mt : H a.mt = some (.dK (fm c.tn c.tS))
  mp : H a.mp = some (.dK (fm c.pn c.pS))
  sf : H a.sf = some (.dK (fm c.sn c.sS))
  pl : H a.pl = some (.dK [])
  sz : H a.sz = some (.dK (fm (nms c.rs) fun _ => 0))
  st : H l.st = some (.dK (lF l 0))
  lim : H l.lim = some (.dK (fm c.pn c.pS))
  kp : H l.kp = some (.dK (fm c.sn c.sS))
  lpl : H l.pl = some (.dK [])
  lsz : H l.sz = some (.dK (fm (lvs c.rs) fun _ => 0))
  mo : H l.mo = some (.dK (fm c.tn c.tS))
  nd : (allA a l).Nodup
section
variable {K : PySem.W.Frag} {H H' S0 : Hp} {src tr pr : Addr} {rs : List RowD} {a : MA} {l : LA} {c : MC} {b : Addr}
theorem Born.fresh (B : Born K H H' src tr rs a l c) : Fresh K H' a l c := ⟨B.me, B.mt, B.mp, B.sf, B.pl, B.sz, B.st, B.lim, B.kp, B.lpl, B.lsz, B.mo, B.nd⟩
/-- kept over writes elsewhere -/
theorem Fresh.to (F : Fresh K H a l c) (k : ∀ b o, b ∈ allA a l → H b = some o → H' b = some o) : Fresh K H' a l c :=
  ⟨k _ _ (by simp) F.me, k _ _ (by simp) F.mt, k _ _ (by simp) F.mp, k _ _ (by simp) F.sf, k _ _ (by simp) F.pl, k _ _ (by simp) F.sz, k _ _ (by simp) F.st, k _ _ (by simp) F.lim, k _ _ (by simp) F.kp, k _ _ (by simp) F.lpl, k _ _ (by simp) F.lsz, k _ _ (by simp) F.mo, F.nd⟩
theorem Fresh.lv (F : Fresh K H a l c) (hb : b ∈ allA a l) : ∃ o, H b = some o ∧ (∀ ps, o ≠ .tbl ps) := by
  simp only [List.mem_cons, List.mem_nil_iff, or_false] at hb
  rcases hb with e | e | e | e | e | e | e | e | e | e | e | e <;> rw [e]
  · exact ⟨_, F.mt, fun _ z => by cases z⟩
  · exact ⟨_, F.mp, fun _ z => by cases z⟩
  · exact ⟨_, F.sf, fun _ z => by cases z⟩
  · exact ⟨_, F.pl, fun _ z => by cases z⟩
  · exact ⟨_, F.sz, fun _ z => by cases z⟩
  · exact ⟨_, F.me, fun _ z => by cases z⟩
  · exact ⟨_, F.mo, fun _ z => by cases z⟩
  · exact ⟨_, F.lsz, fun _ z => by cases z⟩
  · exact ⟨_, F.lpl, fun _ z => by cases z⟩
  · exact ⟨_, F.kp, fun _ z => by cases z⟩
  · exact ⟨_, F.lim, fun _ z => by cases z⟩
  · exact ⟨_, F.st, fun _ z => by cases z⟩
theorem mutO_all {x : Addr} (hb : x ∈ mutO a l) : x ∈ allA a l := by
  simp only [List.mem_append, List.mem_cons, List.mem_nil_iff, or_false] at hb ⊢
  rcases hb with (e | e | e) | e | e | e <;> simp [e]
abbrev statA (a : MA) (l : LA) : List Addr := [a.mt, a.mp, a.sf, l.lim, l.kp, l.mo]
theorem stat_all {x : Addr} (hb : x ∈ statA a l) : x ∈ allA a l := by
  simp only [List.mem_cons, List.mem_nil_iff, or_false] at hb ⊢
  rcases hb with e | e | e | e | e | e <;> simp [e]
theorem stat_out (nd : (allA a l).Nodup) {x : Addr} (hb : x ∈ statA a l) : x ∉ mutO a l := by
  intro hm
  simp only [List.nodup_cons, List.mem_cons, List.mem_nil_iff, or_false, not_or, List.mem_append] at nd hb hm
  rcases hb with e | e | e | e | e | e <;> rcases hm with (z | z | z) | z | z | z <;> simp_all
theorem One.make (F : Fresh K H a l c) (ex : Ex S0 H) (tree : TreeAt K S0 a.tr c.rs) (rows : RowsAt K S0 pr c.rs) (stat : ∀ b o, b ∈ statA a l → H b = some o → (∀ ps, o ≠ .tbl ps) → S0 b = some o) (mn : ∀ b, b ∈ mutO a l → S0 b = none) (ok : McOk c) : One K S0 H pr a l c v0 [] := by
  have nd := F.nd
  simp only [List.nodup_cons, List.mem_cons, List.mem_nil_iff, or_false, not_or] at nd
  have t : ∀ {kvs : List (Key × V)} (ps : Array Value), HO.dK kvs ≠ .tbl ps := fun _ z => by cases z
  refine ⟨⟨ex, tree, stat _ _ (by simp) F.mt t, stat _ _ (by simp) F.mp t, stat _ _ (by simp) F.sf t, mn _ (by simp), mn _ (by simp), mn _ (by simp), nd.2.2.2.1.1, F.me, F.pl, F.sz, ok, v0_ok c⟩,
    ⟨ex, rows, stat _ _ (by simp) F.lim t, stat _ _ (by simp) F.kp t, stat _ _ (by simp) F.mo t, mn _ (by simp), mn _ (by simp), mn _ (by simp), ?_, ?_, ?_, F.st, F.lpl, F.lsz, ok, v0_ok c, List.Perm.refl _⟩, fun b hb hm => ?_⟩
  · intro e; simp_all
  · intro e; simp_all
  · intro e; simp_all
  · simp only [List.mem_cons, List.mem_nil_iff, or_false] at hb hm
    rcases hb with e | e | e <;> rcases hm with z | z | z <;> simp_all
end
theorem Fresh.shape {K : PySem.W.Frag} {H : Hp} {a : MA} {l : LA} {c : MC} {b : Addr} (F : Fresh K H a l c) (hb : b ∈ allA a l) : (∀ xs, H b ≠ some (.tup xs)) ∧ (∀ u x, H b ≠ some (.frz u x)) ∧ ∀ xs, H b ≠ some (.lst xs) := by
  have key : ∀ o, H b = some o → (∀ xs, o ≠ .tup xs) → (∀ u x, o ≠ .frz u x) → (∀ xs, o ≠ .lst xs) → (∀ xs, H b ≠ some (.tup xs)) ∧ (∀ u x, H b ≠ some (.frz u x)) ∧ ∀ xs, H b ≠ some (.lst xs) := fun o h h1 h2 h3 => ⟨fun xs e => h1 xs (Option.some.inj (h.symm.trans e)), fun u x e => h2 u x (Option.some.inj (h.symm.trans e)), fun xs e => h3 xs (Option.some.inj (h.symm.trans e))⟩
  have kd : ∀ kvs, H b = some (.dK kvs) → (∀ xs, H b ≠ some (.tup xs)) ∧ (∀ u x, H b ≠ some (.frz u x)) ∧ ∀ xs, H b ≠ some (.lst xs) := fun kvs h => key _ h (fun _ z => by cases z) (fun _ _ z => by cases z) fun _ z => by cases z
  simp only [List.mem_cons, List.mem_nil_iff, or_false] at hb
  rcases hb with e | e | e | e | e | e | e | e | e | e | e | e
  · exact kd _ (by rw [e]; exact F.mt)
  · exact kd _ (by rw [e]; exact F.mp)
  · exact kd _ (by rw [e]; exact F.sf)
  · exact kd _ (by rw [e]; exact F.pl)
  · exact kd _ (by rw [e]; exact F.sz)
  · exact key _ (by rw [e]; exact F.me) (fun _ z => by cases z) (fun _ _ z => by cases z) fun _ z => by cases z
  · exact kd _ (by rw [e]; exact F.mo)
  · exact kd _ (by rw [e]; exact F.lsz)
  · exact kd _ (by rw [e]; exact F.lpl)
  · exact kd _ (by rw [e]; exact F.kp)
  · exact kd _ (by rw [e]; exact F.lim)
  · exact kd _ (by rw [e]; exact F.st)
theorem sqt_keep {K : PySem.W.Frag} {H H' : Hp} {a : Addr} {xs : List V} (h : SqT K H a xs) (k : ∀ o, H a = some o → (o = .tup xs ∨ ∃ u, o = .frz u (.tup xs)) → H' a = some o) : SqT K H' a xs := by
  rcases h with h | h
  · rcases h with h | ⟨o, h⟩
    · exact .inl (.inl (k _ h (.inl rfl)))
    · exact .inl (.inr ⟨o, k _ h (.inr ⟨o, rfl⟩)⟩)
  · exact .inr h
/-! ### two machines -/
def cutS (M : List Addr) (H : Hp) : Hp := fun b => if b ∈ M then none else match H b with
  | some (.tbl _) => none
  | o => o
theorem cutS_in {M : List Addr} {H : Hp} {b : Addr} (h : b ∈ M) : cutS M H b = none := if_pos h
theorem cutS_at {M : List Addr} {H : Hp} {b : Addr} {o : HO} (h : H b = some o) (hb : b ∉ M) (ht : ∀ ps, o ≠ .tbl ps) : cutS M H b = some o := by
  unfold cutS
  rw [if_neg hb, h]
  cases o with
  | tbl ps => exact absurd rfl (ht ps)
  | _ => rfl
theorem cutS_ex (M : List Addr) (H : Hp) : Ex (cutS M H) H := fun b o h => by
  unfold cutS at h
  split at h
  · cases h
  · split at h
    · cases h
    · exact h
theorem cutS_noT (M : List Addr) (H : Hp) : NoT (cutS M H) := fun b ps h => by
  unfold cutS at h
  split at h
  · cases h
  · split at h
    · cases h
    · rename_i h2
      exact h2 _ h
structure Two (K : PySem.W.Frag) (Tb : List (Addr × Str)) (S0 H : Hp) (src pr : Addr) (a1 : MA) (l1 : LA) (c1 : MC) (v1 : MV) (p1 : List (Int × Str)) (a2 : MA) (l2 : LA) (c2 : MC) (v2 : MV) (p2 : List (Int × Str)) : Prop where
  x1 : StepIn K Tb S0 H src pr a1 l1 c1 v1 p1
  x2 : StepIn K Tb S0 H src pr a2 l2 c2 v2 p2
  sep : ∀ b, b ∈ mutO a1 l1 → b ∉ mutO a2 l2
section
variable {K : PySem.W.Frag} {Tb : List (Addr × Str)} {S0 H H' : Hp} {src pr : Addr} {a1 a2 : MA} {l1 l2 : LA} {c1 c2 : MC} {v1 v2 v' : MV} {p1 p2 p' : List (Int × Str)}
theorem Two.swap (t : Two K Tb S0 H src pr a1 l1 c1 v1 p1 a2 l2 c2 v2 p2) : Two K Tb S0 H src pr a2 l2 c2 v2 p2 a1 l1 c1 v1 p1 := ⟨t.x2, t.x1, fun b h z => t.sep b z h⟩
theorem Two.to (t : Two K Tb S0 H src pr a1 l1 c1 v1 p1 a2 l2 c2 v2 p2) (e : Ex H H') : Two K Tb S0 H' src pr a1 l1 c1 v1 p1 a2 l2 c2 v2 p2 := ⟨t.x1.to e, t.x2.to e, t.sep⟩
theorem Two.draw (t : Two K Tb S0 H src pr a1 l1 c1 v1 p1 a2 l2 c2 v2 p2) (k : Keep [src] H H') (s : SrcAt H' src) : Two K Tb S0 H' src pr a1 l1 c1 v1 p1 a2 l2 c2 v2 p2 := ⟨t.x1.draw k s, t.x2.draw k s, t.sep⟩
theorem Two.step (t : Two K Tb S0 H src pr a1 l1 c1 v1 p1 a2 l2 c2 v2 p2) (k : KeepN (src :: mutO a1 l1) H H') (x : StepIn K Tb S0 H' src pr a1 l1 c1 v' p') : Two K Tb S0 H' src pr a1 l1 c1 v' p' a2 l2 c2 v2 p2 :=
  ⟨x, ⟨t.x2.one.keepN t.x2.nt k fun b hb => (List.mem_cons.mp hb).elim (fun e => by rw [e]; exact ⟨t.x2.ns, t.x2.nsm⟩) fun z => ⟨t.x1.one.free0 b z, t.sep b z⟩, x.hs, x.tab, x.nt, x.ns, t.x2.nsm⟩, t.sep⟩
theorem two_start {H2 : Hp} {tr : Addr} {rs : List RowD} (hs2 : SrcAt H2 src) (hs : SrcAt H src) (tab : LamX.Tabs Tb H) (F1 : Fresh K H a1 l1 c1) (F2 : Fresh K H a2 l2 c2) (n1 : ∀ b, b ∈ allA a1 l1 → H2 b = none) (n2 : ∀ b, b ∈ allA a2 l2 → H2 b = none) (dj : ∀ b, b ∈ allA a1 l1 → b ∉ allA a2 l2)
    (k : Keep [src] H2 H) (tree : TreeAt K H2 tr rs) (rows : RowsAt K H2 pr rs) (r1 : c1.rs = rs) (t1 : a1.tr = tr) (o1 : McOk c1) (r2 : c2.rs = rs) (t2 : a2.tr = tr) (o2 : McOk c2) :
    Two K Tb (cutS (src :: (mutO a1 l1 ++ mutO a2 l2)) H) H src pr a1 l1 c1 v0 [] a2 l2 c2 v0 [] := by
  have ns2 : ∀ {b : Addr}, H2 b = none → b ≠ src := fun h e => by
    obtain ⟨x, y, z, q⟩ := hs2
    rw [e, q] at h
    cases h
  have kg : KeepG H2 (cutS (src :: (mutO a1 l1 ++ mutO a2 l2)) H) := KeepN.g (src := src) (fun b o h n t => cutS_at (k b o h n) (fun z => by
    rcases List.mem_cons.mp z with e | z
    · exact n (by rw [e]; exact List.mem_singleton.mpr rfl)
    · rcases List.mem_append.mp z with z | z
      · rw [n1 b (mutO_all z)] at h; cases h
      · rw [n2 b (mutO_all z)] at h; cases h) t) hs2
  have T := kg.tree tree
  have R := kg.rows rows
  have st1 : ∀ b o, b ∈ statA a1 l1 → H b = some o → (∀ ps, o ≠ .tbl ps) → cutS (src :: (mutO a1 l1 ++ mutO a2 l2)) H b = some o := fun b o hb h t => cutS_at h (fun z => by
    rcases List.mem_cons.mp z with e | z
    · exact ns2 (n1 b (stat_all hb)) e
    · rcases List.mem_append.mp z with z | z
      · exact stat_out F1.nd hb z
      · exact dj b (stat_all hb) (mutO_all z)) t
  have st2 : ∀ b o, b ∈ statA a2 l2 → H b = some o → (∀ ps, o ≠ .tbl ps) → cutS (src :: (mutO a1 l1 ++ mutO a2 l2)) H b = some o := fun b o hb h t => cutS_at h (fun z => by
    rcases List.mem_cons.mp z with e | z
    · exact ns2 (n2 b (stat_all hb)) e
    · rcases List.mem_append.mp z with z | z
      · exact dj b (mutO_all z) (stat_all hb)
      · exact stat_out F2.nd hb z) t
  have q1 := One.make (pr := pr) F1 (cutS_ex _ H) (by rw [t1, r1]; exact T) (by rw [r1]; exact R) st1 (fun b hb => cutS_in (List.mem_cons_of_mem _ (List.mem_append_left _ hb))) o1
  have q2 := One.make (pr := pr) F2 (cutS_ex _ H) (by rw [t2, r2]; exact T) (by rw [r2]; exact R) st2 (fun b hb => cutS_in (List.mem_cons_of_mem _ (List.mem_append_right _ hb))) o2
  exact ⟨⟨q1, hs, tab, cutS_noT _ _, cutS_in List.mem_cons_self, fun z => ns2 (n1 _ (mutO_all z)) rfl⟩, ⟨q2, hs, tab, cutS_noT _ _, cutS_in List.mem_cons_self, fun z => ns2 (n2 _ (mutO_all z)) rfl⟩, fun b h z => dj b (mutO_all h) (mutO_all z)⟩
end
end
end K74
set_option Elab.async false
set_option linter.all false
set_option maxRecDepth 100000
set_option maxHeartbeats 4000000
namespace K74
open PySem PySem.Spec PyProof.Rows L2
section
variable {P : Program} {w : World} {K : PySem.W.Frag} {mg : Str → Option Value} {base : Heap}
abbrev N_l_right : List Str := ["_law_source_here", "_law_rows_here", "_law_made", "_law_pair", "_law_turn", "_law_machine", "_law_state", "_law_one", "_law_due"]
abbrev P_l_right : List Str := ["_law_source_here"]
theorem sc_l_right : FnScope N_l_right P_l_right (defScope s_l_right) := C8.fnScope_by (by decide +kernel)
theorem b_l_right {K : PySem.W.Frag} {fd : FuncData} (F : FunD K d_l_right.name d_l_right.qual d_l_right.params d_l_right.body d_l_right.scope (d_l_right.dvs K) (d_l_right.kws K) (He.fAd K d_l_right.at_) fd) : L2.Binds K fd P_l_right [] :=
  FunD.bindsN F fun _ _ _ _ _ _ us hl => match us, hl with | [_], _ => rfl
def Bud (j : Nat) (v : MV) : Prop := v.ps.length ≤ j ∧ v.many ≤ j ∧ ∀ n, v.S n ≤ (j : Int) * (2 * 10 ^ 57)
theorem Bud.up {j : Nat} {v : MV} (h : Bud j v) : Bud (j + 1) v := ⟨by have := h.1; omega, by have := h.2.1; omega, fun n => by have := h.2.2 n; omega⟩
theorem Bud.step {j : Nat} {v v' : MV} (h : Bud j v) (h1 : v'.ps.length ≤ v.ps.length + 1) (h2 : ∀ n, v'.S n ≤ v.S n + 2 * 10 ^ 57) (h3 : v'.many ≤ v.many + 1) : Bud (j + 1) v' := ⟨by have := h.1; omega, by have := h.2.1; omega, fun n => by have := h.2.2 n; have := h2 n; omega⟩
def spRight (K : PySem.W.Frag) : Sp := fun vs H Q _ => ∃ src : Addr, vs = [.ref src] ∧ SrcAt H src ∧ LamX.Tabs (tbStep K) H ∧ ∀ H', LamX.Tabs (tbStep K) H' → KeepN [src] H H' → Q (.bl true) H'
theorem ok_l_right (T : Tx K mg) (Z : Zx P K mg base) (TB : LamX.TabB base mg (cStep K).1 (cStep K).2) : Has P w K mg base CX0 27 d_l_right P_l_right (spRight K) := by
  have H_l_rows : Has P w K mg base CX0 4 d_l_rows P_l_rows (spRows K) := ok_l_rows T
  have H_l_next : Has P w K mg base CX0 2 d_l_next P_l_next spNext := ok_l_next T
  have H_l_begun : Has P w K mg base CX0 5 d_l_begun P_l_begun (spBegun K) := ok_l_begun T
  have H_l_stands : Has P w K mg base CX0 14 d_l_stands P_l_stands (spStands K) := ok_l_stands T
  have H_l_step_right : Has P w K mg base CX0 26 d_l_step_right P_l_step_right (spStepRight K) := ok_l_step_right T Z TB
  have H_Tree_init : Has P w K mg base CX0 5 d_Tree_init P_Tree_init (spTreeInit K) := ok_Tree_init T
  have H_Tree_rows : Has P w K mg base CX0 1 d_Tree_rows P_Tree_rows (spTRows K) := ok_Tree_rows T
  refine has0 T _ at_d_l_right sc_l_right (fun fd F => b_l_right F) (fun vs H Q E h => ?_) (fun cdv A outer s H vs Q E hr h => ?_)
  · obtain ⟨src, rfl, _⟩ := h
    rfl
  · obtain ⟨src, rfl, hs, tab, k⟩ := h
    have hu := hu_of hr
    have nd := sc_l_right.nd
    refine ⟨_, (pss_cons (ps_set (i := 1) nd rfl (Or.inr rfl) (pe_cl H_l_rows hr (by first | decide | omega) T.g_l_rows pass0 (pa_cons (pv 0) (pa_cons pe_int pa_nil))))
        (pss_cons (ps_set (i := 2) nd rfl (Or.inr rfl) (pe_mk T.k_Tree H_Tree_init hr (by first | decide | omega) T.g_Tree (pa_cons (pv 1) pa_nil)))
        (pss_cons (ps_setLc (i := 3) (own := [("_law_turn", 4)]) (g := gName 4) (tt := tYes) rfl nd rfl rfl (sw_true rfl rfl rfl (by decide +kernel)) (pi_range1 (by rfl) T.z_range (pa_cons pe_int pa_nil)) (blkOk_by (N := N_l_right) (sc := defScope s_l_right) (by decide +kernel)) (fun _ _ _ _ _ => pg_name (i := 4) nd rfl (Or.inl rfl)) (fun _ _ _ _ _ => pts_nil) (fun _ _ _ _ _ => (pe_cl H_l_begun hr (by first | decide | omega) T.g_l_begun pass0 (pa_cons (pv 0) (pa_cons (pv 2) (pa_cons (pv 1) pa_nil))))))
        (pss_cons (ps_if (pt_not (pt_val (pe_callB (cr_all rfl) (by rfl) T.z_all (by decide +kernel) (pa_cons (pe_lc (own := [("_law_machine", 5), ("_law_state", 6)]) (tt := tYes) rfl nd (pi_list (pv 3)) (blkOk_by (N := N_l_right) (sc := defScope s_l_right) (by decide +kernel)) (fun _ _ _ _ _ => pgT (n := 2) K rfl rfl (pgs_cons (pg_name (i := 5) nd rfl (Or.inl rfl)) (pgs_cons (pg_name (i := 6) nd rfl (Or.inl rfl)) pgs_nil))) (fun _ _ _ _ _ => pts_nil) (fun _ _ _ _ _ => (pe_dget hu (pv 6) pe_str (fun _ _ => rfl)))) pa_nil)))) (pss_one (ps_ret pe_bl)) pss_nil)
        (pss_cons (ps_for PassesOwn.never rfl (pi_range1 (by rfl) T.z_range (pa_cons pe_int pa_nil)) (pg_name (i := 4) nd rfl (Or.inl rfl))
          (pss_cons (ps_asg (pe_ix (ixL K rfl) (pv 3) (pe_cl H_l_next hr (by first | decide | omega) T.g_l_next pass0 (pa_cons (pv 0) (pa_cons pe_int pa_nil))) (fun _ _ => rfl)) (pgT (n := 2) K rfl rfl (pgs_cons (pg_name (i := 5) nd rfl (Or.inl rfl)) (pgs_cons (pg_name (i := 6) nd rfl (Or.inl rfl)) pgs_nil))))
            (pss_cons (ps_if (pt_not (pt_val (pe_cl H_l_step_right hr (by first | decide | omega) T.g_l_step_right pass0 (pa_cons (pv 0) (pa_cons (pv 5) (pa_cons (pv 1) (pa_cons (pv 6) pa_nil))))))) (pss_one (ps_ret pe_bl)) pss_nil)
            (pss_one (ps_if (pt_not (pt_val (pe_callB (cr_all rfl) (by rfl) T.z_all (by decide +kernel) (pa_cons (pe_lc (own := [("_law_one", 7), ("_law_due", 8)]) (tt := tYes) rfl nd (pi_list (pv 3)) (blkOk_by (N := N_l_right) (sc := defScope s_l_right) (by decide +kernel)) (fun _ _ _ _ _ => pgT (n := 2) K rfl rfl (pgs_cons (pg_name (i := 7) nd rfl (Or.inl rfl)) (pgs_cons (pg_name (i := 8) nd rfl (Or.inl rfl)) pgs_nil))) (fun _ _ _ _ _ => pts_nil) (fun _ _ _ _ _ => (pe_cl H_l_stands hr (by first | decide | omega) T.g_l_stands pass0 (pa_cons (pv 7) (pa_cons (pv 1) (pa_cons (pv 8) pa_nil)))))) pa_nil)))) (pss_one (ps_ret pe_bl)) pss_nil)))))
        (pss_one (ps_ret (pe_cmpR (opEqD K rfl hr.units) (pe_ml0 H_Tree_rows hr (by first | decide | omega) T.c_Tree T.m_Tree_rows pass0 (pv 2)) (pv 1) (nomark _))))))))), ?_⟩
    refine ⟨_, rfl, src, rfl, hs, fun pr H1 ys rs hpr k1 s1 h1 r1 hw => ?_⟩
    have R1 : RowsAt K H1 pr rs := RowsAt.of (K74.SqL.of' h1) r1
    refine ⟨_, rfl, fun tr dx htr hdx hne => ?_⟩
    have htr2 : (upd H1 dx (.own tr)) tr = none := by rw [upd_ne (Ne.symm hne)]; exact htr
    have e2 := (Ex.new (o := .own tr) hdx).trans (Ex.new (o := .ins (He.ga K "Tree") dx []) htr2)
    refine ⟨tr, dx, pr, rs, rfl, upd_same, R1.ex e2, hw, fun H2 k2 tT => ⟨rfl, ?_⟩⟩
    have e12 : Ex H1 H2 := fun b o h => k2 b o (fun e => by rw [e, htr] at h; cases h) (e2 _ _ h)
    have R2 := R1.ex e12
    have s2 := s1.ex e12
    have kk2 : Keep [src] H H2 := k1.exL e12
    clear htr2 e2 k2
    refine ⟨_, rfl, by decide, by decide, fun D hD => ?_⟩
    obtain ⟨H3, hH3⟩ : ∃ H3, H3 = upd H2 D (.lst []) := ⟨_, rfl⟩
    have e3 : Ex H2 H3 := by rw [hH3]; exact Ex.new hD
    have h3D : H3 D = some (.lst []) := by rw [hH3]; exact upd_same
    have nDs : D ≠ src := fun e => by
      obtain ⟨x, y, z, q⟩ := s2
      rw [← e, hD] at q
      cases q
    have hH3' := hH3
    rw [← hH3]
    clear hH3
    let G1 : Hp → Prop := fun Hx => ∃ a l c t Hb, Born K H3 Hb src tr rs a l c ∧ H3 t = none ∧ SqT K Hb t [.ref a.me, .ref l.st] ∧ Hx = upd Hb D (.lst [V.ref t])
    let G2 : Hp → Prop := fun Hx => ∃ a1 l1 c1 t1 Hb a2 l2 c2 t2 Hc, Born K H3 Hb src tr rs a1 l1 c1 ∧ H3 t1 = none ∧ SqT K Hb t1 [.ref a1.me, .ref l1.st] ∧ Born K (upd Hb D (.lst [V.ref t1])) Hc src tr rs a2 l2 c2 ∧ (upd Hb D (.lst [V.ref t1])) t2 = none ∧ SqT K Hc t2 [.ref a2.me, .ref l2.st] ∧ Hx = upd Hc D (.lst [V.ref t1, .ref t2])
    refine ⟨fun i m Hx => (i = 0 ∧ m = 2 ∧ Hx = H3) ∨ (i = 1 ∧ m = 1 ∧ G1 Hx) ∨ (i = 2 ∧ m = 0 ∧ G2 Hx), ⟨2, .inl ⟨rfl, rfl, rfl⟩⟩, fun i m Hx w => ?_⟩
    rcases w with ⟨rfl, rfl, rfl⟩ | ⟨rfl, rfl, a, l, c, t, Hb, B, nt, qt, rfl⟩ | ⟨rfl, rfl, a1, l1, c1, t1, Hb, a2, l2, c2, t2, Hc, B1, nt1, qt1, B2, nt2, qt2, rfl⟩
    · refine .inr ⟨by show 0 < 2; decide, G1, fun H' g => ⟨1, by decide, .inr (.inl ⟨rfl, rfl, g⟩)⟩, fun x H' y => ?_⟩
      obtain ⟨rfl, rfl⟩ := y
      refine ⟨rfl, _, rfl, _, rfl, _, rfl, src, tr, pr, rs, rfl, s2.ex e3, tT.ex e3, R2.ex e3, hw, fun a l c t Hb B nt qt => ?_⟩
      exact ⟨[], keepA B.keep h3D nDs, by show 0 < sizeLine; decide, a, l, c, t, Hb, B, nt, qt, rfl⟩
    · refine .inr ⟨by show 1 < 2; decide, G2, fun H' g => ⟨0, by decide, .inr (.inr ⟨rfl, rfl, g⟩)⟩, fun x H' y => ?_⟩
      obtain ⟨rfl, rfl⟩ := y
      have kb : KeepG H2 (upd Hb D (.lst [V.ref t])) := KeepN.g (src := src) (fun b o h n t => by
        rw [upd_ne fun e => by rw [e, hD] at h; cases h]
        exact B.keep _ _ (e3 _ _ h) n) s2
      have sb : SrcAt (upd Hb D (.lst [V.ref t])) src := by
        obtain ⟨x, y, z, q⟩ := B.hs
        exact ⟨x, y, z, by rw [upd_ne (Ne.symm nDs)]; exact q⟩
      refine ⟨rfl, _, rfl, _, rfl, _, rfl, src, tr, pr, rs, rfl, sb, kb.tree tT, kb.rows R2, hw, fun a2 l2 c2 t2 Hc B2 nt2 qt2 => ?_⟩
      exact ⟨[V.ref t], keepA B2.keep upd_same nDs, by show 1 < sizeLine; decide, a, l, c, t, Hb, a2, l2, c2, t2, Hc, B, nt, qt, B2, nt2, qt2, rfl⟩
    refine .inl ⟨by show 2 ≤ 2; decide, ?_⟩
    have n3D : ∀ {b : Addr}, H3 b = none → b ≠ D := fun h e => by rw [e, h3D] at h; cases h
    have n3s : ∀ {b : Addr}, H3 b = none → b ≠ src := fun h e => by
      obtain ⟨x, y, z, q⟩ := s2.ex e3
      rw [e, q] at h
      cases h
    have n32 : ∀ {b : Addr}, H3 b = none → H2 b = none := fun h => e3.free h
    have nb3 : ∀ {b : Addr}, (upd Hb D (.lst [V.ref t1])) b = none → H3 b = none := fun {b} h => by
      cases z : H3 b with
      | none => rfl
      | some o =>
        have hbD : b ≠ D := fun e => by rw [e, upd_same] at h; cases h
        have hbs : b ≠ src := fun e => by
          obtain ⟨x, y, z, q⟩ := B1.hs
          rw [upd_ne hbD, e, q] at h
          cases h
        rw [upd_ne hbD, keepA B1.keep z hbs] at h
        cases h
    obtain ⟨H4, hH4⟩ : ∃ H4, H4 = upd Hc D (.lst [V.ref t1, .ref t2]) := ⟨_, rfl⟩
    have k24 : Keep [src] H2 H4 := fun b o h n => by
      have hbD : b ≠ D := fun e => by rw [e, hD] at h; cases h
      rw [hH4, upd_ne hbD]
      exact B2.keep _ _ (by rw [upd_ne hbD]; exact B1.keep _ _ (e3 _ _ h) n) n
    have s4 : SrcAt H4 src := by
      obtain ⟨x, y, z, q⟩ := B2.hs
      exact ⟨x, y, z, by rw [hH4, upd_ne (Ne.symm nDs)]; exact q⟩
    have c4 : ∀ {b : Addr} {o : HO}, H3 b = none → Hb b = some o → H4 b = some o := fun {b o} hn h => by
      rw [hH4, upd_ne (n3D hn)]
      exact keepA B2.keep (by rw [upd_ne (n3D hn)]; exact h) (n3s hn)
    have F1 : Fresh K H4 a1 l1 c1 := B1.fresh.to fun b o hb h => c4 (B1.new b hb) h
    have F2 : Fresh K H4 a2 l2 c2 := B2.fresh.to fun b o hb h => by
      rw [hH4, upd_ne (n3D (nb3 (B2.new b hb)))]
      exact h
    have tab4 : LamX.Tabs (tbStep K) H4 := tabs_keep tab (kk2.trans k24) (src_solid hs)
    have dj : ∀ b, b ∈ allA a1 l1 → b ∉ allA a2 l2 := fun b h z => by
      obtain ⟨o, ho, _⟩ := B1.fresh.lv h
      have := B2.new b z
      rw [upd_ne (n3D (B1.new b h)), ho] at this
      cases this
    have W2 := two_start s2 s4 tab4 F1 F2 (fun b hb => n32 (B1.new b hb)) (fun b hb => n32 (nb3 (B2.new b hb))) dj k24 tT R2 B1.rs B1.tr B1.ok B2.rs B2.tr B2.ok
    have h4D : H4 D = some (.lst [V.ref t1, .ref t2]) := by rw [hH4]; exact upd_same
    obtain ⟨S0, hS0⟩ : ∃ S0, S0 = cutS (src :: (mutO a1 l1 ++ mutO a2 l2)) H4 := ⟨_, rfl⟩
    have sat : ∀ {b : Addr} {o : HO}, H4 b = some o → (∀ x y z : Int, o ≠ .lst [.int x, .int y, .int z]) → ((∃ xs, o = .tup xs) ∨ (∃ u x, o = .frz u x) ∨ ∃ xs, o = .lst xs) → S0 b = some o := fun {b o} h h1 h2 => by
      rw [hS0]
      refine cutS_at h (fun z => ?_) fun ps e => ?_
      · rcases List.mem_cons.mp z with e | z
        · obtain ⟨x, y, z, q⟩ := s4
          rw [e, q] at h
          exact h1 x y z (Option.some.inj h).symm
        · have sh : (∀ xs, H4 b ≠ some (.tup xs)) ∧ (∀ u x, H4 b ≠ some (.frz u x)) ∧ ∀ xs, H4 b ≠ some (.lst xs) := (List.mem_append.mp z).elim (fun z => F1.shape (mutO_all z)) fun z => F2.shape (mutO_all z)
          rcases h2 with ⟨xs, e⟩ | ⟨u, x, e⟩ | ⟨xs, e⟩
          · exact sh.1 xs (by rw [h, e])
          · exact sh.2.1 u x (by rw [h, e])
          · exact sh.2.2 xs (by rw [h, e])
      · rcases h2 with ⟨xs, e2⟩ | ⟨u, x, e2⟩ | ⟨xs, e2⟩ <;> rw [e2] at e <;> cases e
    have S0D : S0 D = some (.lst [V.ref t1, .ref t2]) := sat h4D (fun x y z e => by cases e) (.inr (.inr ⟨_, rfl⟩))
    have q1 : SqT K S0 t1 [.ref a1.me, .ref l1.st] := sqt_keep qt1 fun o h h2 => sat (c4 nt1 h) (fun x y z e => by rcases h2 with h2 | ⟨u, h2⟩ <;> rw [h2] at e <;> cases e) (h2.elim (fun e => .inl ⟨_, e⟩) fun ⟨u, e⟩ => .inr (.inl ⟨_, _, e⟩))
    have q2 : SqT K S0 t2 [.ref a2.me, .ref l2.st] := sqt_keep qt2 fun o h h2 => sat (by rw [hH4, upd_ne (n3D (nb3 nt2))]; exact h) (fun x y z e => by rcases h2 with h2 | ⟨u, h2⟩ <;> rw [h2] at e <;> cases e) (h2.elim (fun e => .inl ⟨_, e⟩) fun ⟨u, e⟩ => .inr (.inl ⟨_, _, e⟩))
    have nw1 : ∀ b, b ∈ mutO a1 l1 → H2 b = none := fun b hb => n32 (B1.new b (mutO_all hb))
    have nw2 : ∀ b, b ∈ mutO a2 l2 → H2 b = none := fun b hb => n32 (nb3 (B2.new b (mutO_all hb)))
    have r1' := B1.rs
    have r2' := B2.rs
    have tr1 := B1.tr
    show tSeq _ _ _ [some (.ref src), some (.ref pr), some (.ref tr), some (.ref D), none, none, none, none, none] (upd Hc D (.lst [V.ref t1, .ref t2]))
    rw [← hS0] at W2
    rw [← hH4]
    clear hS0 hH4 F1 F2 dj c4 nb3 n32 n3s n3D B1 B2 qt1 qt2 nt1 nt2 sat
    have T4 : TreeAt K S0 tr rs := by
      have := W2.x1.one.m.tree
      rw [tr1, r1'] at this
      exact this
    have E4 := W2.x1.one.m.ex
    refine ⟨_, rfl, D, rfl, ⟨_, K74.SqL.of' h4D⟩, fun D2 hD2 => ?_⟩
    refine lc_b [t1, t2] V.ref (fun _ => some (V.bl true)) hD2 (K74.SqL.of' h4D) (by show 2 ≤ 10000; decide) (fun i b H' hb e Q q => ?_) (fun H5 e5 h5 => ?_)
    · have W' := W2.to e
      have hS := E4.trans e
      have hbb : b = t1 ∨ b = t2 := by
        have := List.mem_of_getElem? hb
        simpa using this
      rcases hbb with rfl | rfl
      · exact ⟨b, _, rfl, hS.t q1, rfl, _, _, rfl, _, _, rfl, rfl, rfl, _, rfl, l1.st, _, rfl, W'.x1.one.q.gOk, q _ (Ex.refl _)⟩
      · exact ⟨b, _, rfl, hS.t q2, rfl, _, _, rfl, _, _, rfl, rfl, rfl, _, rfl, l2.st, _, rfl, W'.x2.one.q.gOk, q _ (Ex.refl _)⟩
    have h5' : H5 D2 = some (.lst ([true, true].map V.bl)) := h5
    refine ⟨D2, [true, true], rfl, K74.SqL.of' h5', true, rfl, ifF rfl ?_⟩
    have W5 := W2.to e5
    have nH : ∀ b, H2 b = none → b ≠ src → ∀ o, H b ≠ some o := fun b h n o e => by
      rw [keepA kk2 e n] at h
      cases h
    refine ⟨_, rfl, by decide, by decide, ?_⟩
    refine for_range (lo := 0) (n := 30) (fun j σ Hx => (∃ z4 z5 z6, σ = [some (.ref src), some (.ref pr), some (.ref tr), some (.ref D), z4, z5, z6, none, none]) ∧ KeepN [src] H Hx ∧ ∃ v1 p1 v2 p2, Two K (tbStep K) S0 Hx src pr a1 l1 c1 v1 p1 a2 l2 c2 v2 p2 ∧ Bud j v1 ∧ Bud j v2)
      ⟨⟨_, _, _, rfl⟩, KeepN.of ((kk2.trans k24).exL e5), v0, [], v0, [], W5, ⟨Nat.le_refl _, Int.le_refl _, fun n => by show (0 : Int) ≤ _; omega⟩, ⟨Nat.le_refl _, Int.le_refl _, fun n => by show (0 : Int) ≤ _; omega⟩⟩ (fun j σ Hx hj pv => ?_) (fun σ Hx pv => ?_)
    · obtain ⟨⟨z4, z5, z6, rfl⟩, kN, v1, p1, v2, p2, W, b1, b2⟩ := pv
      refine ⟨_, rfl, _, rfl, src, 2, rfl, W.x1.hs, by decide, by decide, fun r H6 r0 r1 k6 s6 => ?_⟩
      have W6 := W.draw k6 s6
      have ES := W6.x1.one.m.ex
      have kN6 : KeepN [src] H H6 := kN.trans (KeepN.of k6)
      obtain ⟨t, a, l, c, v, p, a', l', c', v', p', hat, qt, V6, bv, bv', nw, back⟩ : ∃ (t : Addr) (a : MA) (l : LA) (c : MC) (v : MV) (p : List (Int × Str)) (a' : MA) (l' : LA) (c' : MC) (v' : MV) (p' : List (Int × Str)), atI [V.ref t1, .ref t2] r = some (.ref t) ∧ SqT K S0 t [.ref a.me, .ref l.st] ∧ Two K (tbStep K) S0 H6 src pr a l c v p a' l' c' v' p' ∧ Bud j v ∧ Bud j v' ∧ (∀ b, b ∈ mutO a l → H2 b = none) ∧
          ∀ Hy u q, Two K (tbStep K) S0 Hy src pr a l c u q a' l' c' v' p' → Bud (j + 1) u → Bud (j + 1) v' → ∃ v1 p1 v2 p2, Two K (tbStep K) S0 Hy src pr a1 l1 c1 v1 p1 a2 l2 c2 v2 p2 ∧ Bud (j + 1) v1 ∧ Bud (j + 1) v2 := by
        have hr : r = 0 ∨ r = 1 := by omega
        rcases hr with rfl | rfl
        · exact ⟨t1, a1, l1, c1, v1, p1, a2, l2, c2, v2, p2, rfl, q1, W6, b1, b2, nw1, fun Hy u q w x y => ⟨_, _, _, _, w, x, y⟩⟩
        · exact ⟨t2, a2, l2, c2, v2, p2, a1, l1, c1, v1, p1, rfl, q2, W6.swap, b2, b1, nw2, fun Hy u q w x y => ⟨_, _, _, _, w.swap, y, x⟩⟩
      refine ⟨D, _, r, .ref t, rfl, rfl, ES.l (K74.SqL.of' S0D), hat, t, _, rfl, ES.t qt, rfl, _, _, rfl, _, _, rfl, rfl, ?_⟩
      refine ⟨_, rfl, _, rfl, _, rfl, _, rfl, S0, src, pr, a, l, c, v, p, rfl, V6.x1, by have := bv.1; omega, fun n => by have := bv.2.2 n; omega, by have := bv.2.1; omega, fun H7 u q k7 x7 d1 d2 d3 => ⟨true, rfl, ifF rfl ?_⟩⟩
      have V7 := V6.step k7 x7
      obtain ⟨w1, y1, w2, y2, U, g1, g2⟩ := back H7 u q V7 (bv.step d1 d2 d3) bv'.up
      have kN7 : KeepN [src] H H7 := fun b o h n t => k7 b o (kN6 b o h n t) (fun z => by
        rcases List.mem_cons.mp z with e | z
        · exact n (List.mem_singleton.mpr e)
        · exact nH b (nw b z) (fun e => n (List.mem_singleton.mpr e)) o h) t
      have ES7 := U.x1.one.m.ex
      have h7D := ES7 _ _ S0D
      refine ⟨_, rfl, D, rfl, ⟨_, K74.SqL.of' h7D⟩, fun D3 hD3 => ?_⟩
      refine lc_b [t1, t2] V.ref (fun _ => some (V.bl true)) hD3 (K74.SqL.of' h7D) (by show 2 ≤ 10000; decide) (fun i b H' hb e Q q => ?_) (fun H8 e8 h8 => ?_)
      · have U' := U.to e
        have hS := ES7.trans e
        have hbb : b = t1 ∨ b = t2 := by
          have := List.mem_of_getElem? hb
          simpa using this
        rcases hbb with rfl | rfl
        · exact ⟨b, _, rfl, hS.t q1, rfl, _, _, rfl, _, _, rfl, rfl, rfl, _, rfl, _, rfl, _, rfl, S0, pr, a1, l1, c1, w1, y1, rfl, U'.x1.one, fun H'' e'' => q _ e''⟩
        · exact ⟨b, _, rfl, hS.t q2, rfl, _, _, rfl, _, _, rfl, rfl, rfl, _, rfl, _, rfl, _, rfl, S0, pr, a2, l2, c2, w2, y2, rfl, U'.x2.one, fun H'' e'' => q _ e''⟩
      have h8' : H8 D3 = some (.lst ([true, true].map V.bl)) := h8
      exact ⟨D3, [true, true], rfl, K74.SqL.of' h8', true, rfl, ifF rfl ⟨⟨_, _, _, rfl⟩, kN7.trans (KeepN.of (Keep.of e8)), w1, y1, w2, y2, U.to e8, g1, g2⟩⟩
    · obtain ⟨⟨z4, z5, z6, rfl⟩, kN, v1, p1, v2, p2, W, b1, b2⟩ := pv
      have ES := W.x1.one.m.ex
      have TT := T4.ex ES
      have RX := W.x1.one.q.Rows
      rw [r1'] at RX
      obtain ⟨dx', ln, bn, bl, bnk, blk, hI, _⟩ := id TT
      refine ⟨_, rfl, tr, _, _, rfl, hI, rfl, tr, rs, rfl, TT, fun p ys hp ry => ?_⟩
      have ep := Ex.new (o := .lst ys) hp
      obtain ⟨ys2, hq2, ry2⟩ := (RX.ex ep).get
      have ry1 : Reps (RowR K) (upd Hx p (.lst ys)) ys rs := by
        obtain ⟨tt, e1, e2, h⟩ := ry
        exact ⟨tt, e1, e2, fun q hq => (h q hq).keep ep.keepT⟩
      exact ⟨_, rfl, rows_eq hw (K74.SqL.of' upd_same) ry1 hq2 ry2 (k _ (W.x1.tab.ext ep) (kN.trans (KeepN.of (Keep.of ep))))⟩
end
end K74
set_option Elab.async false
set_option linter.all false
set_option maxRecDepth 100000
set_option maxHeartbeats 4000000
namespace K74
open PySem PySem.Spec PyProof.Rows L2
section
variable {P : Program} {w : World} {K : PySem.W.Frag} {mg : Str → Option Value} {base : Heap}
abbrev N_law : List Str := ["_law_script", "_law_k"]
abbrev P_law : List Str := ["_law_script"]
theorem sc_law : FnScope N_law P_law (defScope s_law) := C8.fnScope_by (by decide +kernel)
theorem b_law {K : PySem.W.Frag} {fd : FuncData} (F : FunD K d_law.name d_law.qual d_law.params d_law.body d_law.scope (d_law.dvs K) (d_law.kws K) (He.fAd K d_law.at_) fd) : L2.Binds K fd P_law [] :=
  FunD.bindsN F fun _ _ _ _ _ _ us hl => match us, hl with | [_], _ => rfl
def spLaw (K : PySem.W.Frag) : Sp := fun vs H Q _ => ∃ (a : Addr) (ns : List Int), vs = [.ref a] ∧ SqL K H a (ns.map V.int) ∧ ns.length ≤ 63 ∧ LamX.Tabs (tbStep K) H ∧ ∀ H', Q (.bl true) H'
theorem sql_keepN {K : PySem.W.Frag} {H H' : Hp} {a p : Addr} {xs : List V} (h : SqL K H a xs) (hp : H p = none) (k : KeepN [p] H H') : SqL K H' a xs := by
  have n : ∀ {o}, H a = some o → a ∉ [p] := fun h z => by
    rw [List.mem_singleton.mp z, hp] at h
    cases h
  rcases h with h | h
  · rcases h with h | ⟨o, h⟩
    · exact .inl (.inl (k _ _ h (n h) fun _ z => by cases z))
    · exact .inl (.inr ⟨o, k _ _ h (n h) fun _ z => by cases z⟩)
  · exact .inr h
theorem nox_of {X : Cx} {b : List Stmt} {D : Ends} {σ : L2.St} {H : Hp} (h : ∃ t, PSs X.nox b t ∧ t D σ H) : ∃ t, PSs X b t ∧ t D σ H := by
  obtain ⟨t, h1, h2⟩ := h
  exact ⟨t, h1.nox, h2⟩
theorem ok_law (T : Tx K mg) (Z : Zx P K mg base) (TB : LamX.TabB base mg (cStep K).1 (cStep K).2) {fd : FuncData} (F : FunD K d_law.name d_law.qual d_law.params d_law.body d_law.scope (d_law.dvs K) (d_law.kws K) (He.fAd K d_law.at_) fd) : FnOk P w K mg base CX0 28 (He.fAd K d_law.at_) fd P_law (spLaw K) := by
  have H_l_source : Has P w K mg base CX0 2 d_l_source P_l_source (spSource K) := ok_l_source T
  have H_l_right : Has P w K mg base CX0 27 d_l_right P_l_right (spRight K) := ok_l_right T Z TB
  refine F.ok sc_law (fun vs H Q E h => ?_) (fun cdv A outer s H vs Q E hr h => nox_of ?_)
  · obtain ⟨a, ns, rfl, _⟩ := h
    rfl
  · obtain ⟨a, ns, rfl, hs, hz, tab, k⟩ := h
    have hu := hu_of hr
    have nd := sc_law.nd
    refine ⟨_, (pss_cons (ps_for PassesOwn.never rfl (pi_range1 (by rfl) T.z_range (pa_cons (pe_callB (call_max2 rfl) (by rfl) T.z_max (by decide +kernel) (pa_cons pe_int (pa_cons (pe_callB (call_min2 rfl) (by rfl) T.z_min (by decide +kernel) (pa_cons pe_int (pa_cons (pe_callB (callLen K rfl) (by rfl) T.z_len (by decide +kernel) (pa_cons (pv 0) pa_nil)) pa_nil))) pa_nil))) pa_nil)) (pg_name (i := 1) nd rfl (Or.inl rfl))
          (pss_one (ps_if (pt_not (pt_val (pe_cl H_l_right hr (by first | decide | omega) T.g_l_right pass0 (pa_cons (pe_cl H_l_source hr (by first | decide | omega) T.g_l_source pass0 (pa_cons (pv 0) (pa_cons (pv 1) pa_nil))) pa_nil)))) (pss_one (ps_ret pe_bl)) pss_nil)))
        (pss_one (ps_ret pe_bl))), ?_⟩
    refine ⟨_, rfl, a, _, rfl, .inl hs, _, _, rfl, _, _, rfl, ?_⟩
    rw [List.length_map]
    obtain ⟨M, hM⟩ : ∃ M : Int, M = (if (if ((ns.length : Nat) : Int) < 3 then ((ns.length : Nat) : Int) else 3) > 1 then (if ((ns.length : Nat) : Int) < 3 then ((ns.length : Nat) : Int) else 3) else 1) := ⟨_, rfl⟩
    have hM0 : 0 ≤ M ∧ M ≤ 3 := by
      rw [hM]
      split <;> split <;> omega
    rw [← hM]
    refine ⟨_, rfl, by omega, by omega, ?_⟩
    refine for_range (lo := 0) (n := M.toNat) (fun j σ Hx => (∃ z, σ = [some (.ref a), z]) ∧ SqL K Hx a (ns.map V.int) ∧ LamX.Tabs (tbStep K) Hx) ⟨⟨_, rfl⟩, hs, tab⟩ (fun j σ Hx hj pv => ?_) (fun σ Hx pv => ?_)
    · obtain ⟨⟨z, rfl⟩, hx, tx⟩ := pv
      have ez : (0 : Int) + (j : Nat) = (j : Nat) := Int.zero_add _
      refine ⟨_, rfl, _, rfl, a, ns, j, (by rw [ez]; rfl), hx, fun p x y z hp => ?_⟩
      have ep := Ex.new (o := .lst [V.int x, .int y, .int z]) hp
      refine ⟨p, rfl, ⟨x, y, z, upd_same⟩, tx.ext ep, fun H' t' k' => ⟨true, rfl, ifF rfl ⟨⟨_, rfl⟩, ?_, t'⟩⟩⟩
      refine sql_keepN (p := p) hx hp fun b o hb n t => k' b o (ep _ _ hb) n t
    · obtain ⟨⟨z, rfl⟩, hx, tx⟩ := pv
      exact k _
end
end K74
set_option Elab.async false
set_option linter.all false
set_option maxRecDepth 100000
set_option maxHeartbeats 4000000
namespace K74
open PySem PySem.Spec PyProof.Rows L2
section
variable {P : Program} {w : World} {K : PySem.W.Frag} {mg : Str → Option Value} {base : Heap}
theorem FnOk.frag {K' : PySem.W.Frag} {CX : CXT} {k : Nat} {f : Addr} {fd : FuncData} {ps : List Str} {sp : Sp} (F : FnOk P w K mg base CX k f fd ps sp) (h : K'.In base → K.In base) : FnOk P w K' mg base CX k f fd ps sp :=
  ⟨F.len, fun A outer s H args us vs Q E hr e hb hv hs => F.run A outer s H args us vs Q E hr ⟨e.frames, ⟨h e.mod.kin, e.mod.glob, e.mod.blt, e.mod.nolimit⟩, e.bs, e.bsz, e.funs, e.frf, e.hok, e.bare⟩ hb hv hs⟩
theorem zx_of (T : Tx K mg) (S : PySem.K74R.StOk base) : Zx Rw.prog K mg base :=
  ⟨S, by decide +kernel, PySem.K74R.roomT_of T.errs.2.2.2.1, T.errs.1.C.hs, T.errs.2.2.2.2⟩
abbrev Lw : PySem.W.OpenLaw := PySem.Challenge.rw_busyleaves_k74_whole_machines_at_work
theorem dict_data {o : Obj} {x : Str} (h : PySem.W.nsIn [(cStatics, o)] cStatics x = some none) : ∃ es n, o.data = .dict es n := by
  obtain ⟨oc, od, dt, sl⟩ := o
  have e : List.lookup cStatics [(cStatics, (⟨oc, od, dt, sl⟩ : Obj))] = some ⟨oc, od, dt, sl⟩ := by simp [List.lookup]
  unfold PySem.W.nsIn at h
  rw [e] at h
  cases dt with
  | dict es n => exact ⟨es, n, rfl⟩
  | _ => cases h
theorem law_at {h : Heap} {fa : Addr} (Y : hkL.says w h) (G : h.Ns mainGlobals mg) (hfa : mg ("law" : Str) = some (.ref fa)) : ∃ K : PySem.W.Frag, K.In h ∧ LamX.LawAtS Lw w K CX0 28 63 "_law_script" mg fa h := by
  obtain ⟨⟨K, KX, c⟩, S⟩ := Y
  obtain ⟨o, hS, hno⟩ := id S
  have T : Tx K mg := ⟨⟨h, KX, G⟩, c.t.d, c.more⟩
  have e := hfa.symm.trans T.g_law
  cases e
  obtain ⟨es, ne, hdt⟩ := dict_data hno
  have look : ∀ a, List.lookup a ((cStatics, o) :: K) = if a = cStatics then some o else K.lookup a := fun a => by
    by_cases q : a = cStatics
    · rw [if_pos q, q]
      simp [List.lookup]
    · rw [if_neg q]
      have : (a == cStatics) = false := beq_eq_false_iff_ne.mpr q
      simp [List.lookup, this]
  have KS : ∀ a o', K.lookup a = some o' → List.lookup a ((cStatics, o) :: K) = some o' := fun a o' z => by
    rw [look]
    by_cases q : a = cStatics
    · rw [if_pos q]
      have h1 := KX a o' z
      rw [q, hS] at h1
      exact h1
    · rw [if_neg q]
      exact z
  have hp2 : h.get? (cStep K).2 = some { cls := .none, data := .fields #[] } := c.empty _ (by simp [d_l_step_right])
  have np : (cStep K).2 ≠ cStatics := fun q => by
    rw [q, hS] at hp2
    have := congrArg Obj.data (Option.some.inj hp2)
    rw [hdt] at this
    cases this
  refine ⟨(cStatics, o) :: K, fun a o' z => ?_, ?_⟩
  · have z' : List.lookup a ((cStatics, o) :: K) = some o' := z
    rw [look] at z'
    by_cases q : a = cStatics
    · rw [if_pos q] at z'
      cases z'
      rw [q]
      exact hS
    · rw [if_neg q] at z'
      exact KX a o' z'
  · obtain ⟨fd, F⟩ := T.says.def_ _ at_d_law
    have b := FunD.bindsA (ps := P_law) F fun _ _ _ _ _ _ us hl => match us, hl with | [_], _ => rfl
    refine ⟨fd, [cStep K], spLaw K, fun p hp => ?_, fun p hp => ?_, fun p hp => ?_, fun s u => b s [u] rfl, fun H a ns hl _ hH hS => ⟨a, ns, rfl, ?_, hl, fun p hp => ?_, fun _ => rfl⟩, fun base hK hG hT => ?_⟩
    · rw [List.mem_singleton.mp hp]
      exact hp2
    · rw [List.mem_singleton.mp hp]
      have q := look (cStep K).2
      rw [if_neg np, c.out _ (by simp [d_l_step_right])] at q
      exact q
    · rw [List.mem_singleton.mp hp]
      exact PySem.W.codeHd_of_K KX (c.hd _ (by simp [d_l_step_right]))
    · rcases hS with z | ⟨o', its, n, z, z2, z3, z4, z5⟩
      · exact .inl z
      · refine .inr ⟨o', its, n, ?_, z2, z3, z4, z5⟩
        rw [look] at z
        by_cases q : a = cStatics
        · rw [if_pos q] at z
          cases z
          rw [hdt] at z4
          cases z4
        · rw [if_neg q] at z
          exact z
    · rw [List.mem_singleton.mp hp]
      exact LamX.TabS.nil (hH _ (List.mem_singleton.mpr rfl))
    · have hK' : K.In base := fun a o' z => hK a o' (KS a o' z)
      have hSb : PySem.K74R.StOk base := ⟨o, hK cStatics o (by have := look cStatics; rw [if_pos rfl] at this; exact this), hno⟩
      have T' : Tx K mg := T
      exact FnOk.frag (ok_law (P := Rw.prog) (w := w) (base := base) T (zx_of T hSb) (hT _ (List.mem_singleton.mpr rfl)) F) fun _ => hK'
end
end K74
set_option Elab.async false
set_option linter.all false
set_option maxRecDepth 100000
set_option maxHeartbeats 0
open PySem PySem.W PySem.Calls PyProof.Rows
theorem PySem.Challenge.cw_busyleaves_k74_whole_machines_at_work_holds : PySem.Challenge.rw_busyleaves_k74_whole_machines_at_work.Holds := by
  w_on; o_law
  refine HandSHeadRun.head_any (r := K74.Rw) (q := view K74.Rw.prog [73]) (H := K74.hkL) (ob := K74.obL) (M := 20000) (loose := K74.looseL) (d := HandSHeadRun.topDef K74.Rw.prog 73) (kwd := []) K74.obL_eq
    (by kernel_rfl) (fun s => by kernel_rfl) K74.runL (by kernel_rfl) (by kernel_rfl) (by kernel_rfl) (by rfl) (by first | assumption | decide +kernel) (by decide +kernel) ⟨rfl, rfl, rfl, rfl, rfl, by decide +kernel⟩ ?hw ?hc
  case hw => w_witness2
  case hc =>
    refine LamX.walk_ofTsE (l := PySem.Challenge.rw_busyleaves_k74_whole_machines_at_work) (n := 63) (k := 28) (x := "_law_script") (CX := fun _ => L2.CX0) rfl (by decide) (by kernel_rfl) ⟨rfl, by decide, by decide⟩ ?F (fun _ _ _ _ _ z => z)
    intro w mg fa h Y G hmg0
    have hmg : mg ("law" : PySem.Str) = some (.ref fa) := by
      have e : (HandSHeadRun.topDef K74.Rw.prog 73).name = ("law" : PySem.Str) := by kernel_rfl
      rw [← e]
      exact hmg0
    exact K74.law_at Y G hmg
