import PyProof.Rows.All
import Wide.All
import OpenK.AllK
import Wide.FinOn
import HandS.ForMost
import HandS.Defaults
import HandS.HeadEnd
import HandS.Head0
import HandS.Head1
import HandS.Head2
import HandS.HeadHook1
import HandS.HeadHook2
import HandS.HeadHook3
import HandS.OwnEq
import HandS.IsInst
import HandS.DictComp
import HandS.Style
import HandS.IterNext
import KE.KOpsOwn
import KE.KDictZip
import KE.KOwnIter
import KE.SortData
import KE.GoesEnum
import KE.SortCalls
import HandS.Iter
import HandS.FStr
import HandS.WordsList
import HandS.Deep
import HandS.Text
import HandS.Codes
import HandS.FStrTup
import PySem.Challenge.RW_uplines_k15_whole_parts
set_option Elab.async false
set_option linter.all false
set_option maxRecDepth 100000
set_option maxHeartbeats 4000000
namespace U
open PySem PySem.Spec PyProof.Rows L2
/-! ### the text by places -/
def top (i : Nat) : Stmt := PySem.Challenge.pw_uplines_k15_whole_parts.main.body.getD i (.Pass ⟨0, 0, 0, 0⟩)
abbrev s_is_integer : Stmt := top 5
abbrev s_is_count : Stmt := top 6
abbrev s_is_name : Stmt := top 7
abbrev s_is_list : Stmt := top 8
abbrev s_first_wrong_level : Stmt := top 26
abbrev s_is_line_beside : Stmt := top 27
abbrev s_first_wrong_line : Stmt := top 28
abbrev S_init : Stmt := inClass (top 29) 3
abbrev S_want_limits : Stmt := inClass (top 29) 4
abbrev S_can_be_line : Stmt := inClass (top 29) 6
abbrev S_levels : Stmt := inClass (top 29) 7
abbrev S_level : Stmt := inClass (top 29) 8
abbrev S_lines : Stmt := inClass (top 29) 9
abbrev S_gap : Stmt := inClass (top 29) 10
abbrev S_level_of : Stmt := inClass (top 29) 11
abbrev S_above : Stmt := inClass (top 29) 12
abbrev S_below : Stmt := inClass (top 29) 13
abbrev S_pairs : Stmt := inClass (top 29) 14
abbrev S_hanging : Stmt := inClass (top 29) 15
abbrev S_parts : Stmt := inClass (top 29) 16
abbrev S_len : Stmt := inClass (top 29) 18
abbrev S_contains : Stmt := inClass (top 29) 19
abbrev S_iter : Stmt := inClass (top 29) 20
abbrev S_eq : Stmt := inClass (top 29) 21
abbrev S_repr : Stmt := inClass (top 29) 22
abbrev S_add : Stmt := inClass (top 29) 23
abbrev S_sub : Stmt := inClass (top 29) 25
abbrev S_invert : Stmt := inClass (top 29) 26
abbrev S_or : Stmt := inClass (top 29) 27
abbrev S_rshift : Stmt := inClass (top 29) 28
abbrev S_with_node : Stmt := inClass (top 29) 29
abbrev S_without_node : Stmt := inClass (top 29) 30
abbrev S_with_level : Stmt := inClass (top 29) 31
abbrev S_joined : Stmt := inClass (top 29) 33
abbrev s_want_no_common : Stmt := top 30
abbrev s_has_level : Stmt := top 31
abbrev s_want_level : Stmt := top 32
abbrev s_is_node : Stmt := top 33
abbrev s_want_node : Stmt := top 34
abbrev s_law_pot : Stmt := top 36
abbrev s_law_draw : Stmt := top 37
abbrev s_law_pick : Stmt := top 38
abbrev s_law_some : Stmt := top 39
abbrev s_law_pool : Stmt := top 40
abbrev s_law_plan : Stmt := top 41
abbrev s_law_all_lines : Stmt := top 42
abbrev s_law_sheet : Stmt := top 43
abbrev s_law_hanging : Stmt := top 44
abbrev s_law_parts : Stmt := top 45
abbrev s_law_tells : Stmt := top 46
abbrev s_law_told_right : Stmt := top 47
abbrev s_law_others : Stmt := top 48
abbrev s_law_again_right : Stmt := top 49
abbrev s_law_joined_right : Stmt := top 50
abbrev s_law_long_right : Stmt := top 51
abbrev s_law_right : Stmt := top 52
abbrev s_law : Stmt := top 53
/-! ### the data of the head -/
def d_is_integer : He.DefD := ⟨("is_integer", none), "is_integer", "is_integer", defArgs s_is_integer, defBody s_is_integer, defScope s_is_integer, [], []⟩
def d_is_count : He.DefD := ⟨("is_count", none), "is_count", "is_count", defArgs s_is_count, defBody s_is_count, defScope s_is_count, [], []⟩
def d_is_name : He.DefD := ⟨("is_name", none), "is_name", "is_name", defArgs s_is_name, defBody s_is_name, defScope s_is_name, [], []⟩
def d_is_list : He.DefD := ⟨("is_list", none), "is_list", "is_list", defArgs s_is_list, defBody s_is_list, defScope s_is_list, [], []⟩
def d_first_wrong_level : He.DefD := ⟨("first_wrong_level", none), "first_wrong_level", "first_wrong_level", defArgs s_first_wrong_level, defBody s_first_wrong_level, defScope s_first_wrong_level, [], []⟩
def d_is_line_beside : He.DefD := ⟨("is_line_beside", none), "is_line_beside", "is_line_beside", defArgs s_is_line_beside, defBody s_is_line_beside, defScope s_is_line_beside, [], []⟩
def d_first_wrong_line : He.DefD := ⟨("first_wrong_line", none), "first_wrong_line", "first_wrong_line", defArgs s_first_wrong_line, defBody s_first_wrong_line, defScope s_first_wrong_line, [], []⟩
def d_S_init : He.DefD := ⟨("Sheet", some "__init__"), "__init__", "Sheet.__init__", defArgs S_init, defBody S_init, defScope S_init, [.adr (He.dflAt ("Sheet", some "__init__") 0)], []⟩
def d_S_want_limits : He.DefD := ⟨("Sheet", some "want_limits"), "want_limits", "Sheet.want_limits", defArgs S_want_limits, defBody S_want_limits, defScope S_want_limits, [], []⟩
def d_S_can_be_line : He.DefD := ⟨("Sheet", some "can_be_line"), "can_be_line", "Sheet.can_be_line", defArgs S_can_be_line, defBody S_can_be_line, defScope S_can_be_line, [], []⟩
def d_S_levels : He.DefD := ⟨("Sheet", some "levels"), "levels", "Sheet.levels", defArgs S_levels, defBody S_levels, defScope S_levels, [], []⟩
def d_S_level : He.DefD := ⟨("Sheet", some "level"), "level", "Sheet.level", defArgs S_level, defBody S_level, defScope S_level, [], []⟩
def d_S_lines : He.DefD := ⟨("Sheet", some "lines"), "lines", "Sheet.lines", defArgs S_lines, defBody S_lines, defScope S_lines, [], []⟩
def d_S_gap : He.DefD := ⟨("Sheet", some "gap"), "gap", "Sheet.gap", defArgs S_gap, defBody S_gap, defScope S_gap, [], []⟩
def d_S_level_of : He.DefD := ⟨("Sheet", some "level_of"), "level_of", "Sheet.level_of", defArgs S_level_of, defBody S_level_of, defScope S_level_of, [], []⟩
def d_S_above : He.DefD := ⟨("Sheet", some "above"), "above", "Sheet.above", defArgs S_above, defBody S_above, defScope S_above, [], []⟩
def d_S_below : He.DefD := ⟨("Sheet", some "below"), "below", "Sheet.below", defArgs S_below, defBody S_below, defScope S_below, [], []⟩
def d_S_pairs : He.DefD := ⟨("Sheet", some "pairs"), "pairs", "Sheet.pairs", defArgs S_pairs, defBody S_pairs, defScope S_pairs, [], []⟩
def d_S_hanging : He.DefD := ⟨("Sheet", some "hanging"), "hanging", "Sheet.hanging", defArgs S_hanging, defBody S_hanging, defScope S_hanging, [], []⟩
def d_S_parts : He.DefD := ⟨("Sheet", some "parts"), "parts", "Sheet.parts", defArgs S_parts, defBody S_parts, defScope S_parts, [], []⟩
def d_S_len : He.DefD := ⟨("Sheet", some "__len__"), "__len__", "Sheet.__len__", defArgs S_len, defBody S_len, defScope S_len, [], []⟩
def d_S_contains : He.DefD := ⟨("Sheet", some "__contains__"), "__contains__", "Sheet.__contains__", defArgs S_contains, defBody S_contains, defScope S_contains, [], []⟩
def d_S_iter : He.DefD := ⟨("Sheet", some "__iter__"), "__iter__", "Sheet.__iter__", defArgs S_iter, defBody S_iter, defScope S_iter, [], []⟩
def d_S_eq : He.DefD := ⟨("Sheet", some "__eq__"), "__eq__", "Sheet.__eq__", defArgs S_eq, defBody S_eq, defScope S_eq, [], []⟩
def d_S_repr : He.DefD := ⟨("Sheet", some "__repr__"), "__repr__", "Sheet.__repr__", defArgs S_repr, defBody S_repr, defScope S_repr, [], []⟩
def d_S_add : He.DefD := ⟨("Sheet", some "__add__"), "__add__", "Sheet.__add__", defArgs S_add, defBody S_add, defScope S_add, [], []⟩
def d_S_sub : He.DefD := ⟨("Sheet", some "__sub__"), "__sub__", "Sheet.__sub__", defArgs S_sub, defBody S_sub, defScope S_sub, [], []⟩
def d_S_invert : He.DefD := ⟨("Sheet", some "__invert__"), "__invert__", "Sheet.__invert__", defArgs S_invert, defBody S_invert, defScope S_invert, [], []⟩
def d_S_or : He.DefD := ⟨("Sheet", some "__or__"), "__or__", "Sheet.__or__", defArgs S_or, defBody S_or, defScope S_or, [], []⟩
def d_S_rshift : He.DefD := ⟨("Sheet", some "__rshift__"), "__rshift__", "Sheet.__rshift__", defArgs S_rshift, defBody S_rshift, defScope S_rshift, [], []⟩
def d_S_with_node : He.DefD := ⟨("Sheet", some "with_node"), "with_node", "Sheet.with_node", defArgs S_with_node, defBody S_with_node, defScope S_with_node, [], []⟩
def d_S_without_node : He.DefD := ⟨("Sheet", some "without_node"), "without_node", "Sheet.without_node", defArgs S_without_node, defBody S_without_node, defScope S_without_node, [], []⟩
def d_S_with_level : He.DefD := ⟨("Sheet", some "with_level"), "with_level", "Sheet.with_level", defArgs S_with_level, defBody S_with_level, defScope S_with_level, [], []⟩
def d_S_joined : He.DefD := ⟨("Sheet", some "joined"), "joined", "Sheet.joined", defArgs S_joined, defBody S_joined, defScope S_joined, [], []⟩
def d_want_no_common : He.DefD := ⟨("want_no_common", none), "want_no_common", "want_no_common", defArgs s_want_no_common, defBody s_want_no_common, defScope s_want_no_common, [], []⟩
def d_has_level : He.DefD := ⟨("has_level", none), "has_level", "has_level", defArgs s_has_level, defBody s_has_level, defScope s_has_level, [], []⟩
def d_want_level : He.DefD := ⟨("want_level", none), "want_level", "want_level", defArgs s_want_level, defBody s_want_level, defScope s_want_level, [], []⟩
def d_is_node : He.DefD := ⟨("is_node", none), "is_node", "is_node", defArgs s_is_node, defBody s_is_node, defScope s_is_node, [], []⟩
def d_want_node : He.DefD := ⟨("want_node", none), "want_node", "want_node", defArgs s_want_node, defBody s_want_node, defScope s_want_node, [], []⟩
def d_law_pot : He.DefD := ⟨("_law_pot", none), "_law_pot", "_law_pot", defArgs s_law_pot, defBody s_law_pot, defScope s_law_pot, [], []⟩
def d_law_draw : He.DefD := ⟨("_law_draw", none), "_law_draw", "_law_draw", defArgs s_law_draw, defBody s_law_draw, defScope s_law_draw, [], []⟩
def d_law_pick : He.DefD := ⟨("_law_pick", none), "_law_pick", "_law_pick", defArgs s_law_pick, defBody s_law_pick, defScope s_law_pick, [], []⟩
def d_law_some : He.DefD := ⟨("_law_some", none), "_law_some", "_law_some", defArgs s_law_some, defBody s_law_some, defScope s_law_some, [], []⟩
def d_law_pool : He.DefD := ⟨("_law_pool", none), "_law_pool", "_law_pool", defArgs s_law_pool, defBody s_law_pool, defScope s_law_pool, [], []⟩
def d_law_plan : He.DefD := ⟨("_law_plan", none), "_law_plan", "_law_plan", defArgs s_law_plan, defBody s_law_plan, defScope s_law_plan, [], []⟩
def d_law_all_lines : He.DefD := ⟨("_law_all_lines", none), "_law_all_lines", "_law_all_lines", defArgs s_law_all_lines, defBody s_law_all_lines, defScope s_law_all_lines, [], []⟩
def d_law_sheet : He.DefD := ⟨("_law_sheet", none), "_law_sheet", "_law_sheet", defArgs s_law_sheet, defBody s_law_sheet, defScope s_law_sheet, [], []⟩
def d_law_hanging : He.DefD := ⟨("_law_hanging", none), "_law_hanging", "_law_hanging", defArgs s_law_hanging, defBody s_law_hanging, defScope s_law_hanging, [], []⟩
def d_law_parts : He.DefD := ⟨("_law_parts", none), "_law_parts", "_law_parts", defArgs s_law_parts, defBody s_law_parts, defScope s_law_parts, [], []⟩
def d_law_tells : He.DefD := ⟨("_law_tells", none), "_law_tells", "_law_tells", defArgs s_law_tells, defBody s_law_tells, defScope s_law_tells, [], []⟩
def d_law_told_right : He.DefD := ⟨("_law_told_right", none), "_law_told_right", "_law_told_right", defArgs s_law_told_right, defBody s_law_told_right, defScope s_law_told_right, [], []⟩
def d_law_others : He.DefD := ⟨("_law_others", none), "_law_others", "_law_others", defArgs s_law_others, defBody s_law_others, defScope s_law_others, [], []⟩
def d_law_again_right : He.DefD := ⟨("_law_again_right", none), "_law_again_right", "_law_again_right", defArgs s_law_again_right, defBody s_law_again_right, defScope s_law_again_right, [], []⟩
def d_law_joined_right : He.DefD := ⟨("_law_joined_right", none), "_law_joined_right", "_law_joined_right", defArgs s_law_joined_right, defBody s_law_joined_right, defScope s_law_joined_right, [], []⟩
def d_law_long_right : He.DefD := ⟨("_law_long_right", none), "_law_long_right", "_law_long_right", defArgs s_law_long_right, defBody s_law_long_right, defScope s_law_long_right, [], []⟩
def d_law_right : He.DefD := ⟨("_law_right", none), "_law_right", "_law_right", defArgs s_law_right, defBody s_law_right, defScope s_law_right, [], []⟩
def d_law : He.DefD := ⟨("law", none), "law", "law", defArgs s_law, defBody s_law, defScope s_law, [], []⟩
def fn : List He.DefD := [d_is_integer, d_is_count, d_is_name, d_is_list, d_first_wrong_level, d_is_line_beside, d_first_wrong_line, d_S_init, d_S_want_limits, d_S_can_be_line, d_S_levels, d_S_level, d_S_lines, d_S_gap, d_S_level_of, d_S_above, d_S_below, d_S_pairs, d_S_hanging, d_S_parts, d_S_len, d_S_contains, d_S_iter, d_S_eq, d_S_repr, d_S_add, d_S_sub, d_S_invert, d_S_or, d_S_rshift] ++ ([d_S_with_node, d_S_without_node, d_S_with_level, d_S_joined, d_want_no_common, d_has_level, d_want_level, d_is_node, d_want_node, d_law_pot, d_law_draw, d_law_pick, d_law_some, d_law_pool, d_law_plan, d_law_all_lines, d_law_sheet, d_law_hanging, d_law_parts, d_law_tells, d_law_told_right, d_law_others, d_law_again_right, d_law_joined_right, d_law_long_right, d_law_right, d_law] : List He.DefD)
def fa : List He.Fa := ([.glo "is_integer", .glo "is_count", .glo "is_name", .glo "is_list", .glo "first_wrong_level", .glo "is_line_beside", .glo "first_wrong_line", .glo "want_no_common", .glo "has_level", .glo "want_level", .glo "is_node", .glo "want_node", .glo "_law_pot", .glo "_law_draw", .glo "_law_pick", .glo "_law_some", .glo "_law_pool", .glo "_law_plan", .glo "_law_all_lines", .glo "_law_sheet", .glo "_law_hanging", .glo "_law_parts", .glo "_law_tells", .glo "_law_told_right", .glo "_law_others", .glo "_law_again_right", .glo "_law_joined_right", .glo "_law_long_right", .glo "_law_right", .glo "law"] : List He.Fa) ++ ([.free "abs", .free "all", .free "bool", .free "classmethod", .free "divmod", .free "enumerate", .free "int", .free "isinstance", .free "iter", .free "len", .free "list", .free "max", .free "min", .free "range", .free "repr", .free "sorted", .free "str", .free "sum", .free "tuple", .free "zip", .glo "Sheet", .str "LETTERS" "abcdefghijklmnopqrstuvwxyz", .str "DIGITS" "0123456789", .int "LONGEST_NAME" 6, .cls "Sheet", .mkr "Sheet", .noat "Sheet" "own_levels", .noat "Sheet" "own_nodes", .noat "Sheet" "own_numbers", .noat "Sheet" "own_lines"] : List He.Fa) ++ ([.noat "Sheet" "own_above", .noat "Sheet" "own_below", .meth "Sheet" "want_limits", .meth "Sheet" "can_be_line", .meth "Sheet" "levels", .meth "Sheet" "level", .meth "Sheet" "lines", .meth "Sheet" "gap", .meth "Sheet" "level_of", .meth "Sheet" "above", .meth "Sheet" "below", .meth "Sheet" "pairs", .meth "Sheet" "hanging", .meth "Sheet" "parts", .meth "Sheet" "__len__", .meth "Sheet" "__contains__", .meth "Sheet" "__iter__", .meth "Sheet" "__eq__", .meth "Sheet" "__repr__", .meth "Sheet" "__add__", .meth "Sheet" "__sub__", .meth "Sheet" "__invert__", .meth "Sheet" "__or__", .meth "Sheet" "__rshift__", .meth "Sheet" "with_node", .meth "Sheet" "without_node", .meth "Sheet" "with_level", .meth "Sheet" "joined"] : List He.Fa)
/-- an empty tuple stands there -/
def tup0B (K : PySem.W.Frag) (a : Addr) : Bool := match K.lookup a with
  | some ⟨.type c, _, .seq its _, _⟩ => decide (c = "tuple") && its.isEmpty
  | _ => false
def x9 (K : PySem.W.Frag) : List Bool := [PySem.W.selfFirst K (He.ga K "Sheet"), He.eqO (PySem.W.findIn K (.ref (He.ga K "Sheet")) "__ne__") (some (some (.builtin "object.__ne__"))), decide (PySem.W.mroIn K (He.ga K "Sheet") (.type "object") = some true),
  He.eqO (PySem.W.findIn K (.ref (He.ga K "Sheet")) "__radd__") (some (some (.ref (He.ma K (He.ga K "Sheet") "__radd__")))), He.eqO (PySem.W.findIn K (.ref (He.ga K "Sheet")) "__rsub__") (some none), decide (PySem.W.subIn K (.type "tuple") (.ref (He.ga K "Sheet")) = some false),
  He.eqO (PySem.W.findIn K (.ref (He.ga K "Sheet")) "__class__") (some (some (.builtin "object.__class__"))), He.eqO (PySem.W.specialIn K (.builtin "object.__class__") "__get__") (some (some (.builtin "getset_descriptor.__get__"))),
  decide (PySem.W.takesIn K (.builtin "object.__class__") = some true)]
def extra (K : PySem.W.Frag) : Bool := He.conB K "Sheet" "MOST_LEVELS" (.int 12) && (He.conB K "Sheet" "MOST_NODES" (.int 18) && (He.conB K "Sheet" "MOST_LINES" (.int 200) && (tup0B K (He.dflAt ("Sheet", some "__init__") 0 K) && (x9 K).all id)))
abbrev R : PySem.W.OpenRow := PySem.W.OpenLaw.row PySem.Challenge.rw_uplines_k15_whole_parts
/-! ### the Hook: names, defs, and one more Bool -/
def obsM (K : PySem.W.Frag) : He.AlD := ((He.obsD fa fn K).1 && extra K, (He.obsD fa fn K).2)
def obsMG (n : Nat) (g : Addr → Option Obj) : He.AlD := obsM (He.frG g (He.asD g n))
def SaysM (K : PySem.W.Frag) : Prop := obsM K = He.valD fn
def hk : PySem.W.Hook where
  α := He.AlD
  obs := fun s => obsMG 5 s.heap.get?
  val := fun _ => He.valD fn
  says := fun _ h => ∃ K : PySem.W.Frag, K.In h ∧ SaysM K
  of := fun _ _ e => ⟨_, He.frG_in, e⟩
  keeps := fun _ _ _ ⟨K, hK, c⟩ k => ⟨K, PySem.W.Frag.In.keeps hK k, c⟩
theorem SaysM.d {K : PySem.W.Frag} (c : SaysM K) : He.SaysD fa fn K := by
  have h0' : obsM K = He.valD fn := c
  have h1 : (obsM K).1 = true := congrArg Prod.fst h0'
  have h0 : obsM K = He.valD fn := c
  have h2 : (obsM K).2 = (He.valD fn).2 := congrArg Prod.snd h0
  exact Prod.ext (He.ba h1).1 h2
theorem SaysM.x {K : PySem.W.Frag} (c : SaysM K) : extra K = true := by
  have h0 : obsM K = He.valD fn := c
  have h1 : (obsM K).1 = true := congrArg Prod.fst h0
  exact (He.ba h1).2
def ob (s : PySem.W.SharedT) : He.AlD := obsMG 5 (HandSHeadRun.getT s)
theorem ob_eq (s : PySem.W.SharedT) : ob s = hk.obs s.abs := by
  have e : HandSHeadRun.getT s = s.abs.heap.get? := funext fun a => HandSHeadRun.getT_eq s a
  show obsMG 5 (HandSHeadRun.getT s) = obsMG 5 s.abs.heap.get?
  rw [e]
def loose : List Str := (["_wall", "LETTERS", "DIGITS", "LONGEST_NAME", "is_integer", "is_count", "is_name", "is_list", "SheetError", "InvalidName", "InvalidLevel", "InvalidLine", "InvalidSheet", "InvalidLevels", "InvalidLines", "MissingError", "UnknownNode", "UnknownLine", "StateError", "NameTaken", "OtherLevels", "LimitError", "TooMany", "first_wrong_level", "is_line_beside", "first_wrong_line", "Sheet", "want_no_common", "has_level", "want_level"] : List Str) ++ (["is_node", "want_node", "_law_pot", "_law_draw", "_law_pick", "_law_some", "_law_pool", "_law_plan", "_law_all_lines", "_law_sheet", "_law_hanging", "_law_parts", "_law_tells", "_law_told_right", "_law_others", "_law_again_right", "_law_joined_right", "_law_long_right", "_law_right"] : List Str)
abbrev lawAt : Nat := 53
end U

set_option linter.all false
set_option maxRecDepth 100000
set_option maxHeartbeats 0
namespace U
open PySem PySem.Spec PyProof.Rows L2
theorem two_maps {α β γ δ : Type} {o : Option α} {f : α → β} {g : α → γ} {k : α → δ} {b : β} {c : γ} {d : δ} (h : o.map (fun s => (f s, g s)) = some (b, c)) (h' : o.map k = some d) : o.map (fun s => (f s, g s, k s)) = some (b, c, d) := by
  cases o with
  | none => cases h
  | some s =>
    have e1 : (f s, g s) = (b, c) := Option.some.inj h
    have e2 : k s = d := Option.some.inj h'
    injection e1 with e3 e4
    rw [← e3, ← e4, ← e2]
    rfl
section
open HandSHeadRun PySem.W PySem.Calls
theorem run_looks (w : World) (os : OsState) : (endF (stepQ (denQ tabQ) R.prog w) 6000 R.prog w os).map (fun s => (looksF R.prog (boot_heap w.params) s.abs, seenQ (PySem.W.view R.prog [lawAt]) loose (importedModules R.prog.main.body) (fun s => xlAt (PySem.W.view R.prog [lawAt]) [] s && recOk R.toRowW.records s) s.abs)) = some (true, openGood (PySem.W.view R.prog [lawAt]) loose) := by
  kernel_rfl
theorem run_says (w : World) (os : OsState) : (endF (stepQ (denQ tabQ) R.prog w) 6000 R.prog w os).map (fun s => ob s) = some (hk.val w) := by
  kernel_rfl
end
theorem run (w : World) : HandSHeadRun.RunEq R (PySem.W.view R.prog [lawAt]) hk ob 6000 loose w := fun os => two_maps (run_looks w os) (run_says w os)
end U

set_option linter.all false
set_option maxRecDepth 100000
set_option maxHeartbeats 2000000
/-! Own rules, first part: a def hidden behind its promise; own operators, len, in of an instance. -/
namespace UR
open PySem PySem.Spec PyProof.Rows L2

/-- a def of the text by its promise alone -/
structure Fn (P : Program) (w : World) (K : PySem.W.Frag) (mg : Str → Option Value) (base : Heap) (k : Nat) (f : Addr) (sp : Sp) (dvs : List V) : Prop where
  ex : ∃ (fd : FuncData) (ps : List Str) (ds : List Value), FnOk P w K mg base CX0 k f fd ps sp ∧ Binds K fd ps ds ∧ Vals dvs ds
theorem Fn.mono {P : Program} {w : World} {K : PySem.W.Frag} {mg : Str → Option Value} {base : Heap} {j k : Nat} {f : Addr} {sp : Sp} {dvs : List V} (F : Fn P w K mg base j f sp dvs) (h : j ≤ k) : Fn P w K mg base k f sp dvs := by
  obtain ⟨fd, ps, ds, F, b, d⟩ := F.ex
  exact ⟨fd, ps, ds, F.mono h, b, d⟩

section
variable {X : Cx} {pins : List (Addr × Obj)} {σ : L2.St} {H : Hp} {s : Shared} {n k j : Nat} {f : Addr} {sp : Sp} {dvs : List V}
/-- such a def runs somewhere below a body -/
theorem Fn.at_ {A1 : Around} {E : Value → Shared → Prop} {us : List Value} {vs : List V} {Q : VK} (F : Fn X.prog X.w X.K X.mg X.base n f sp []) (sb : Sub X n A1) (I : Inv X pins σ H s) (r : Vals vs us) (h : sp vs H Q E0) :
    wpAny (model X.prog X.w) A1 (call (.ref f) us) (EP X pins σ Q) E s := by
  obtain ⟨fd, ps, ds, F, b, d⟩ := F.ex
  cases d
  have b0 := I.env0
  have e0 : Env0 X.prog X.w X.K X.mg X.base A1 X.stack s H := { frames := sb.fr.trans b0.frames, mod := b0.mod, bs := b0.bs, bsz := b0.bsz, funs := b0.funs, frf := b0.frf, hok := b0.hok, bare := b0.bare }
  have hl : (us ++ []).length = ps.length := by
    rw [List.append_nil, ← r.length]
    exact F.len _ _ _ _ h
  have hb := b s us I.kIn hl
  rw [List.append_nil] at hb
  refine wpAny_call (codeAny_mono (F.run A1 X.stack s H _ us vs Q E0 sb.room e0 hb r h) fun z s' hq => ?_)
  match z, hq with
  | .ok (.ret u), hq => exact I.after hq
/-! ### calls by promise -/
variable {x m : Str} {p pos apos : Pos} {e o : Expr} {es : List Expr} {ta : TE} {t : TA} {C : Addr}
theorem pe_f (c : Fn X.prog X.w X.K X.mg X.base k f sp dvs) (hr : Room j X.A) (hk : k ≤ j) (hg : Gl X x) (hm : X.mg x = some (.ref f)) (kp : PySem.W.keepIn X.K (.ref f) = true) (ha : PA X (e :: es) t)
    (hdb : (x == ("__debug__" : Str)) = false := by decide) (he : starEach (e :: es) X.env = (false, eval e X.env) :: starEach es X.env := by rfl) (hpl : (backTo pos (starEach es X.env)).any (·.1) = false := by rfl) :
    PE X (.Call (.Name x p) (e :: es) [] pos) (tCall sp dvs E0 t) := by
  obtain ⟨fd, ps, ds, F, b, d⟩ := c.ex
  exact pe_call F (hr.mono hk) hg hm kp b d pass0 ha hdb he hpl
theorem pe_f0 (c : Fn X.prog X.w X.K X.mg X.base k f sp dvs) (hr : Room j X.A) (hk : k ≤ j) (hg : Gl X x) (hm : X.mg x = some (.ref f)) (kp : PySem.W.keepIn X.K (.ref f) = true)
    (hdb : (x == ("__debug__" : Str)) = false := by decide) : PE X (.Call (.Name x p) [] [] pos) (tCall sp dvs E0 tNil) := by
  obtain ⟨fd, ps, ds, F, b, d⟩ := c.ex
  exact pe_call0 F (hr.mono hk) hg hm kp b d pass0 hdb
theorem pe_m {pl : Sem Bool} (c : Fn X.prog X.w X.K X.mg X.base k f sp dvs) (hr : Room j X.A) (hk : k ≤ j) (cl : Cls X.K C) (hm : Meth X.K C m f) (he : PE X o ta) (ha : PA X (e :: es) t)
    (hst : starEach (e :: es) X.env = (false, eval e X.env) :: starEach es X.env := by rfl) (hpl : (backTo pos (starEach es X.env)).any (·.1) = false := by rfl)
    (ht : eval (.Call (.Attribute o m apos) (e :: es) [] pos) X.env = (do
      let ov ← eval o X.env
      standAt apos.atName
      let (f, first) ← holding [ov] (getMethod ov m pl)
      callWith pos f first (backTo pos (starEach (e :: es) X.env)) (backToKw pos (keywordEach [] X.env))) := by rfl) :
    PE X (.Call (.Attribute o m apos) (e :: es) [] pos) (tMeth C m sp dvs E0 ta t) := by
  obtain ⟨fd, ps, ds, F, b, d⟩ := c.ex
  exact pe_meth he cl hm F (hr.mono hk) b d pass0 ha hst hpl ht
theorem pe_m0 {pl : Sem Bool} (c : Fn X.prog X.w X.K X.mg X.base k f sp dvs) (hr : Room j X.A) (hk : k ≤ j) (cl : Cls X.K C) (hm : Meth X.K C m f) (he : PE X o ta)
    (ht : eval (.Call (.Attribute o m apos) [] [] pos) X.env = (do
      let ov ← eval o X.env
      standAt apos.atName
      let (f, first) ← holding [ov] (getMethod ov m pl)
      callWith pos f first (backTo pos (starEach [] X.env)) (backToKw pos (keywordEach [] X.env))) := by rfl) :
    PE X (.Call (.Attribute o m apos) [] [] pos) (tMeth C m sp dvs E0 ta tNil) := by
  obtain ⟨fd, ps, ds, F, b, d⟩ := c.ex
  exact pe_meth0 he cl hm F (hr.mono hk) b d pass0 ht
theorem pe_n (M : Mk X.K C f) (c : Fn X.prog X.w X.K X.mg X.base k f sp dvs) (hr : Room j X.A) (hk : k + 1 ≤ j) (hg : Gl X x) (hm : X.mg x = some (.ref C)) (ha : PA X (e :: es) t)
    (hdb : (x == ("__debug__" : Str)) = false := by decide) (he : starEach (e :: es) X.env = (false, eval e X.env) :: starEach es X.env := by rfl) (hpl : (backTo pos (starEach es X.env)).any (·.1) = false := by rfl) :
    PE X (.Call (.Name x p) (e :: es) [] pos) (tMake C sp dvs E0 t) := by
  obtain ⟨fd, ps, ds, F, b, d⟩ := c.ex
  exact pe_make M F (hr.mono hk) hg hm b d pass0 ha hdb he hpl
end

theorem relref (a : Addr) : RelV (.ref a) (Value.ref a) := rfl
section
variable {X : Cx} {n : Nat} {f C : Addr} {sp : Sp}
/-- an instance of the class at C stands at a -/
def IsIns (H : Hp) (a C : Addr) : Prop := ∃ dx fs, H a = some (.ins C dx fs)
theorem inst_at {pins : List (Addr × Obj)} {σ : L2.St} {H : Hp} {s : Shared} {a : Addr} (I : Inv X pins σ H s) (h : IsIns H a C) : ∃ ox od, PySem.W.InstAt s.heap a ox C od := by
  obtain ⟨dx, fs, h⟩ := h
  obtain ⟨mA, J, _⟩ := ins_get I.hok h
  obtain ⟨od, J, _⟩ := J.look
  exact ⟨_, _, J⟩
/-- behind a call: the value is no NotImplemented -/
theorem cmp_back {pins : List (Addr × Obj)} {σ : L2.St} {Q : VK} {v : Value} {s' : Shared} (h : EP X pins σ Q v s') : PySem.W.CmpBack (EP X pins σ Q) v s' := by
  obtain ⟨x, H', I, r, q⟩ := h
  cases x with
  | non => cases r; exact ⟨.non, H', I, rfl, q⟩
  | bl b => cases r; exact ⟨.bl b, H', I, rfl, q⟩
  | int i => obtain ⟨t, rfl⟩ := r; exact ⟨.int i, H', I, ⟨t, rfl⟩, q⟩
  | str z => obtain ⟨t, rfl⟩ := r; exact ⟨.str z, H', I, ⟨t, rfl⟩, q⟩
  | byt z => obtain ⟨t, rfl⟩ := r; exact ⟨.byt z, H', I, ⟨t, rfl⟩, q⟩
  | flt z => obtain ⟨t, rfl⟩ := r; exact ⟨.flt z, H', I, ⟨t, rfl⟩, q⟩
  | ref a => cases r; exact ⟨.ref a, H', I, rfl, q⟩
  | ty z => cases r; exact ⟨.ty z, H', I, rfl, q⟩
def rOwn (C : Addr) (sp : Sp) : R2 := fun x y H Q => ∃ a b, x = .ref a ∧ y = .ref b ∧ IsIns H a C ∧ IsIns H b C ∧ sp [x, y] H Q E0
/-- one op other, both of the class at C, by C's own method -/
theorem op_own {op : Operator} (F : Fn X.prog X.w X.K X.mg X.base n f sp []) (hr : Room n X.A) (hc : PySem.W.selfFirst X.K C = true) (hm : Meth X.K C (PySem.dunder op.info.2) f) : OpR X (binaryOp op) (rOwn C sp) := by
  intro pins s σ H x y v u Q I rx ry hq
  obtain ⟨a, b, rfl, rfl, ia, ib, hq⟩ := hq
  obtain rfl : v = Value.ref a := rx
  obtain rfl : u = Value.ref b := ry
  obtain ⟨oa, da, Ja⟩ := inst_at I ia
  obtain ⟨ob, db, Jb⟩ := inst_at I ib
  obtain ⟨m, hF⟩ := I.fr
  refine PySem.W.binop_K hF I.ok.mod.kin Ja Jb.type hc hm.at_ hm.fn ?_
  have ww := F.at_ (A1 := X.A) (E := X.xe) ⟨hr, rfl⟩ I (Paired.cons (relref a) (Paired.cons (relref b) Paired.nil)) hq
  exact wpAny_mono ww (fun v s' h => cmp_back h) fun _ _ z => z
/-- len(o) -/
def rLenOwn (C : Addr) (sp : Sp) : List V → Hp → VK → Prop := fun vs H Q => ∃ a, vs = [.ref a] ∧ IsIns H a C ∧ sp vs H (fun v H' => ∃ i : Int, v = .int i ∧ 0 ≤ i ∧ i < 2 ^ 63 ∧ Q v H') E0
theorem call_len_own (F : Fn X.prog X.w X.K X.mg X.base n f sp []) (hr : Room (n + 1) X.A) (hm : Meth X.K C "__len__" f) : CallR X (.builtin "len") (rLenOwn C sp) := by
  intro pins s σ H us vs Q I r hq
  obtain ⟨a, rfl, ia, hq⟩ := hq
  obtain ⟨u, rfl, ru⟩ := vals1 r
  obtain rfl : u = Value.ref a := ru
  obtain ⟨oa, da, Ja⟩ := inst_at I ia
  obtain ⟨m, hF⟩ := I.fr
  refine PySem.W.len_K hF I.ok.mod.kin Ja hm.at_ hm.fn ?_
  have ww := F.at_ (A1 := X.A.in1) (E := X.xe) ⟨hr.in1, rfl⟩ I (Paired.cons (relref a) Paired.nil) hq
  refine wpAny_mono ww (fun v s' h => ?_) fun _ _ z => z
  obtain ⟨x, H', I', rx, i, rfl, h0, h1, q⟩ := h
  obtain ⟨t, rfl⟩ := rx
  exact ⟨⟨h0, h1⟩, .int i, H', I'.tok _, ⟨_, rfl⟩, q⟩
/-- v in o, v not in o -/
def rInOwn (C : Addr) (sp : Sp) (neg : Bool) : R2 := fun x y H Q => ∃ a, y = .ref a ∧ IsIns H a C ∧ sp [y, x] H (fun v H' => ∃ b, v = .bl b ∧ Q (.bl (if neg then !b else b)) H') E0
theorem op_in_own (F : Fn X.prog X.w X.K X.mg X.base n f sp []) (hr : Room n X.A) (hm : Meth X.K C "__contains__" f) : OpR X (compareOp .In) (rInOwn C sp false) := by
  intro pins s σ H x y v u Q I rx ry hq
  obtain ⟨a, rfl, ia, hq⟩ := hq
  obtain rfl : u = Value.ref a := ry
  obtain ⟨oa, da, Ja⟩ := inst_at I ia
  obtain ⟨m, hF⟩ := I.fr
  refine PySem.W.in_K hF I.ok.mod.kin Ja hm.at_ hm.fn ?_
  have ww := F.at_ (A1 := X.A) (E := X.xe) ⟨hr, rfl⟩ I (Paired.cons (relref a) (Paired.cons rx Paired.nil)) hq
  refine wpAny_mono ww (fun r s' h => ?_) fun _ _ z => z
  obtain ⟨z, H', I', rz, b, rfl, q⟩ := h
  obtain rfl : r = Value.bool b := rz
  exact wpAny_truthy_bool ⟨.bl b, H', I', rfl, q⟩
theorem op_notin_own (F : Fn X.prog X.w X.K X.mg X.base n f sp []) (hr : Room n X.A) (hm : Meth X.K C "__contains__" f) : OpR X (compareOp .NotIn) (rInOwn C sp true) := by
  intro pins s σ H x y v u Q I rx ry hq
  obtain ⟨a, rfl, ia, hq⟩ := hq
  obtain rfl : u = Value.ref a := ry
  obtain ⟨oa, da, Ja⟩ := inst_at I ia
  obtain ⟨m, hF⟩ := I.fr
  refine PySem.W.notIn_K hF I.ok.mod.kin Ja hm.at_ hm.fn ?_
  have ww := F.at_ (A1 := X.A) (E := X.xe) ⟨hr, rfl⟩ I (Paired.cons (relref a) (Paired.cons rx Paired.nil)) hq
  refine wpAny_mono ww (fun r s' h => ?_) fun _ _ z => z
  obtain ⟨z, H', I', rz, b, rfl, q⟩ := h
  obtain rfl : r = Value.bool b := rz
  exact wpAny_truthy_bool ⟨.bl (!b), H', I', rfl, q⟩
/-- ~o -/
def rInvOwn (C : Addr) (sp : Sp) : V → Hp → VK → Prop := fun x H Q => ∃ a, x = .ref a ∧ IsIns H a C ∧ sp [x] H Q E0
theorem un_inv_own (F : Fn X.prog X.w X.K X.mg X.base n f sp []) (hr : Room n X.A) (hm : Meth X.K C "__invert__" f) : UnR X (unaryOp .Invert) (rInvOwn C sp) := by
  intro pins s σ H x v Q I rx hq
  obtain ⟨a, rfl, ia, hq⟩ := hq
  obtain rfl : v = Value.ref a := rx
  obtain ⟨oa, da, Ja⟩ := inst_at I ia
  obtain ⟨m, hF⟩ := I.fr
  refine PySem.W.ksp_inv hF I.ok.mod.kin Ja hm.at_ hm.fn ?_
  exact F.at_ (A1 := X.A) (E := X.xe) ⟨hr, rfl⟩ I (Paired.cons (relref a) Paired.nil) hq
end
end UR

set_option linter.all false
set_option maxRecDepth 100000
set_option maxHeartbeats 2000000
/-! Own rules, second part: an instance and a tuple by an operator; != of instances and of lists of them. -/
namespace UR
open PySem PySem.Spec PyProof.Rows L2 PySem.W
section
variable {prog : Program} {w : World} {A : Around} {E : Value → Shared → Prop} {s : Shared} {K : PySem.W.Frag} {x C L f : Addr} {h₀ : Heap} {m : Str → Option Value} {ox : Obj} {od : Option Obj} {T : String}
/-- o op b, b of the built-in class T, by o's own method -/
theorem bin_any {op : Operator} {b : Value} {fo ro rc : Option Value} {Q : Value → Shared → Prop} (F : Fr h₀ L s.heap m) (X₀ : K.In h₀) (I : InstAt s.heap x ox C od) (hb : Looks (model prog w) s.heap (typeOf b) (.type T))
    (hc : selfFirst K C = true) (hs : findIn K (.ref C) (PySem.dunder op.info.2) = some (some (.ref f))) (hf : isFn K (.ref f) = true) (hr : findIn K (.ref C) (dunderR op.info.2) = some rc) (hp : rc = none ∨ ∃ g : Addr, rc = some (.ref g))
    (h1 : findIn K (.type T) (PySem.dunder op.info.2) = some fo) (h2 : findIn K (.type T) (dunderR op.info.2) = some ro) (hsub : subIn K (.type T) (.ref C) = some false)
    (h : wpAny (model prog w) A (call (.ref f) [.ref x, b]) (PySem.W.CmpBack Q) E s) : wpAny (model prog w) A (binaryOp op (.ref x) b) Q E s := by
  have XX := X₀.keeps F.keep
  obtain ⟨cd, rest, hcd, hm⟩ := ksp_first hc
  obtain ⟨sym, nm, hi⟩ : ∃ a b, op.info = (a, b) := ⟨_, _, rfl⟩
  rw [hi] at hs hr h1 h2
  have one := ksp_try XX I hs hf h
  obtain ⟨hh, g, d, tt, os⟩ := s
  have k3 : Looks (model prog w) hh (fillsNumberSlot (.ref C) nm) true := fills_K XX hcd hm hs
  have k4 : Looks (model prog w) hh (fillsNumberSlot (.type T) nm) ((fo.isSome && !isSeqSlot fo) || (ro.isSome && !isSeqSlot ro)) := ksp_fillsT XX h1 h2
  have k5 : Looks (model prog w) hh (isSubtype (.type T) (.ref C)) false := looks_subIn XX hsub
  have k6 : Looks (model prog w) hh (numberSlotInPython (.ref C) nm) true := ksp_inPy XX hs hr hp
  have k7 : Looks (model prog w) hh (numberSlotInPython (.type T) nm) false := Looks.of_pure rfl
  have k8 : Looks (model prog w) hh (typeLookup (.type T) (dunderR nm)) ro := looks_findIn XX h2
  have k1 : Looks (model prog w) hh (typeOf (.ref x)) (.ref C) := I.type
  have k2 : Looks (model prog w) hh (typeOf b) (.type T) := hb
  generalize ((fo.isSome && !isSeqSlot fo) || (ro.isSome && !isSeqSlot ro)) = rt at k4
  have hne : (Value.ref C == Value.type T) = false := by
    cases q : (Value.ref C == Value.type T) with
    | false => rfl
    | true => cases beq_iff_eq.mp q
  simp only [binaryOp, hi]
  refine wpAny_holding (wpAny_bind ?_)
  unfold binaryOp1
  refine wpAny_bind (k1.at (wpAny_bind (k2.at (wpAny_bind (k3.at ?_)))))
  simp only [hne, Bool.false_eq_true, if_false]
  cases rt <;>
    (ksp_lk
     refine wpAny_mono one (fun r s' hr' => ?_) fun _ _ e => e
     obtain ⟨v, rfl, hq⟩ := hr'
     ksp_lk
     exact hq)
end

section
variable {X : Cx} {n : Nat} {f C : Addr} {sp : Sp} {T : String}
def rOwnT (C : Addr) (sp : Sp) : R2 := fun x y H Q => ∃ a b xs, x = .ref a ∧ y = .ref b ∧ IsIns H a C ∧ H b = some (.tup xs) ∧ sp [x, y] H Q E0
theorem op_own_tup {op : Operator} {rc fo ro : Option Value} (F : Fn X.prog X.w X.K X.mg X.base n f sp []) (hr : Room n X.A) (hc : PySem.W.selfFirst X.K C = true) (hm : Meth X.K C (PySem.dunder op.info.2) f)
    (h0 : findIn X.K (.ref C) (dunderR op.info.2) = some rc) (hp : rc = none ∨ ∃ g : Addr, rc = some (.ref g)) (h1 : findIn X.K (.type "tuple") (PySem.dunder op.info.2) = some fo) (h2 : findIn X.K (.type "tuple") (dunderR op.info.2) = some ro)
    (h3 : subIn X.K (.type "tuple") (.ref C) = some false) : OpR X (binaryOp op) (rOwnT C sp) := by
  intro pins s σ H x y v u Q I rx ry hq
  obtain ⟨a, b, xs, rfl, rfl, ia, hb, hq⟩ := hq
  obtain rfl : v = Value.ref a := rx
  obtain rfl : u = Value.ref b := ry
  obtain ⟨oa, da, Ja⟩ := inst_at I ia
  obtain ⟨m, hF⟩ := I.fr
  obtain ⟨_, its, _, tb⟩ := (show ObjOk X.prog X.w H s.heap b (.tup xs) from I.hok b _ hb)
  obtain ⟨o, ho, hcl, _⟩ := tb
  have lk : Looks (model X.prog X.w) s.heap (typeOf (.ref b)) (.type "tuple") := fun A1 Q1 E1 s1 kp q => by
    refine wpAny_typeOf_ref (kp _ _ ho) ?_
    rw [hcl]
    exact q
  refine bin_any hF I.ok.mod.kin Ja lk hc hm.at_ hm.fn h0 hp h1 h2 h3 ?_
  have ww := F.at_ (A1 := X.A) (E := X.xe) ⟨hr, rfl⟩ I (Paired.cons (relref a) (Paired.cons (relref b) Paired.nil)) hq
  exact wpAny_mono ww (fun v s' h => cmp_back h) fun _ _ z => z
end
end UR

set_option linter.all false
set_option maxRecDepth 100000
set_option maxHeartbeats 2000000
/-! Own rules, third part: != of two instances by their own ==, != of two lists whose items are equal. -/
namespace UR
open PySem PySem.Spec PyProof.Rows L2 PySem.W
open GQ (FinOf ListI call_here)
open AutoSeq1 (wpAny_loadPart')
open MeetsSeq MeetsSeq2 MeetsSeq3 SeqRoads2
section
variable {prog : Program} {w : World} {A : Around} {E : Value → Shared → Prop} {s : Shared} {K : PySem.W.Frag} {x y C L f : Addr} {h₀ : Heap} {m : Str → Option Value} {ox : Obj} {od : Option Obj}
/-- a special method that is a built-in's -/
theorem bound_blt {M : Model} {name : Str} {id : String} {args : List Value} {Q : Option Value → Shared → Prop} (XX : K.In s.heap) (I : InstAt s.heap x ox C od) (hs : findIn K (.ref C) name = some (some (.builtin id)))
    (hb : ∀ self, bindSpecial (.builtin id) self = pure (.builtin id, [self])) (h : wpAny M A (call (.builtin id) (.ref x :: args)) (fun v => Q (some v)) E s) : wpAny M A (callSpecialIfBound? (.ref x) name args) Q E s := by
  have ends : wpAny M A (call (.builtin id) ([.ref x] ++ args) >>= fun v => pure (some v)) Q E s :=
    wpAny_bind (wpAny_mono h (fun v s' z => wpAny_pure z) fun _ _ z => z)
  have lb : Looks M s.heap (bindSpecial (.builtin id) (.ref x)) (.builtin id, [.ref x]) := Looks.of_pure (hb _)
  simp only [callSpecialIfBound?, bindSpecialIfBound?]
  refine wpAny_holding (wpAny_bind (wpAny_bind (wpAny_bind (I.type.here ((looks_findIn XX hs).here (wpAny_bind (wpAny_askSetting (wpAny_ite ?_))))))))
  split
  · exact wpAny_bind (lb.here (wpAny_pure ends))
  · exact wpAny_tryCatch (wpAny_bind (lb.here (wpAny_pure ends)))
theorem ne_K {oy : Obj} {od' : Option Obj} {Q : Value → Shared → Prop} (hu : A.units + 1 < cLine) (XX : K.In s.heap) (I : InstAt s.heap x ox C od) (J : InstAt s.heap y oy C od') (hn : findIn K (.ref C) "__ne__" = some (some (.builtin "object.__ne__")))
    (hm : mroIn K C (.type "object") = some true) (he : findIn K (.ref C) "__eq__" = some (some (.ref f))) (hf : isFn K (.ref f) = true)
    (h : wpAny (model prog w) A.in1 (call (.ref f) [.ref x, .ref y]) (fun v s' => ∃ c, v = .bool c ∧ Q (.bool (!c)) s') E s) : wpAny (model prog w) A (richCompare .NotEq (.ref x) (.ref y)) Q E s := by
  have hu1 : A.in1.units < cLine := hu
  have one : wpAny (model prog w) A (tryCompare (.ref x) "__ne__" (.ref y)) (fun r s' => ∃ v, r = some v ∧ Q v s') E s := by
    unfold tryCompare
    refine wpAny_bind (bound_blt XX I hn PySem.F.slot_zip_ne.bind ?_)
    refine wpAny_call (codeAny_call_builtin PySem.F.slot_zip_ne.plain PySem.F.cmpEntry_ne (check_slot PySem.F.cmpKind_ne PySem.F.cmpSplit_ne (I.type.andThen (looks_mroIn XX hm)) (PySem.F.cmpArgs_ne _ _) ?_))
    unfold Builtin.«object.__ne__»
    refine wpAny_bind (m := slotArgs "__ne__" 1 _) (wpAny_pure ?_)
    refine wpAny_bind (wpAny_cRoomFor hu1 ?_)
    refine wpAny_bind (ifBound_K XX I he hf (wpAny_mono h (fun v s' z => ?_) fun _ _ z => z))
    obtain ⟨c, rfl, q⟩ := z
    refine wpAny_bind (wpAny_truthy_bool (wpAny_pure ?_))
    exact wpAny_pure ⟨_, rfl, q⟩
  unfold richCompare
  simp only [oneThing_ref]
  refine wpAny_holding (wpAny_bind (wpAny_cRoomFor (Nat.lt_of_succ_lt hu) ?_))
  refine wpAny_bind (I.type.here (wpAny_bind (J.type.here ?_)))
  rw [show (Value.ref C != Value.ref C) = false by simp]
  simp only [Bool.false_eq_true, if_false]
  refine wpAny_bind (wpAny_pure ?_)
  simp only [Bool.false_eq_true, if_false]
  refine wpAny_bind (wpAny_mono one (fun r s' z => ?_) fun _ _ z => z)
  obtain ⟨v, rfl, q⟩ := z
  exact wpAny_pure q
end

section
variable {prog : Program} {w : World} {A : Around} {R : Result → Shared → Prop}
/-- the loop of != over two lists whose items are equal one by one -/
theorem ne_turns (l b : Addr) (N : Nat) (P : Nat → Shared → Prop) (hl : ListI prog w A (fun e s' => R (.error e) s') l b N P) (fin : ∀ s, P N s → R (.ok (.ret (.bool false))) s) :
    ∀ (left i : Nat), N - i = left → i ≤ N → ∀ s, P i s →
      wpAny (model prog w) A.in1 (Builtin.«list.__eq__.loop» ⟨[.ref l, .ref b, rawInt i, rawInt 3], []⟩) (FinOf prog w A R) (fun e s' => R (.error e) s') s := by
  intro left
  induction left with
  | zero =>
    intro i hk hi s h
    obtain ⟨its, its2, n, n2, e1, e2, z1, z2, _⟩ := hl _ _ h
    obtain rfl : i = N := by omega
    have goal := fin s h
    obtain ⟨hp, g, d, tk, os⟩ := s
    have a1 : its[((i : Nat) : Int).toNat]? = none := by simp; omega
    have a2 : its2[((i : Nat) : Int).toNat]? = none := by simp; omega
    wp_walk using wpAny_loadPart' e1, wpAny_loadPart' e2
    rw [a1, a2]
    wp_walk using wpAny_loadPart' e1, wpAny_loadPart' e2
    show R (.ok (.ret (.bool (its.size != its2.size)))) _
    rw [z1, z2]
    simpa using goal
  | succ left ih =>
    intro i hk hi s h
    obtain ⟨its, its2, n, n2, e1, e2, z1, z2, turn⟩ := hl _ _ h
    have l1 : i < its.size := by omega
    have l2 : i < its2.size := by omega
    have one := turn l1 l2
    have a1 : its[((i : Nat) : Int).toNat]? = some its[i] := by simp [l1]
    have a2 : its2[((i : Nat) : Int).toNat]? = some its2[i] := by simp [l2]
    obtain ⟨hp, g, d, tk, os⟩ := s
    wp_walk using wpAny_loadPart' e1, wpAny_loadPart' e2
    rw [a1, a2]
    refine wpAny_bind (wpAny_mono one (fun r s2 q => ?_) fun _ _ z => z)
    obtain ⟨rfl, q⟩ := q
    have next := ih (i + 1) (by omega) (by omega) s2 q
    obtain ⟨hp2, g2, d2, tk2, os2⟩ := s2
    wp_walk
    rw [show ((i : Int) + 1) = ((i + 1 : Nat) : Int) by omega]
    refine ⟨plainId_quiet plain_eq_loop _, codeAny_builtin entry_eq_loop ?_⟩
    rw [Around.under_plainId plain_eq_loop _]
    exact next
end
section
variable {prog : Program} {w : World} {A : Around} {E : Value → Shared → Prop} {s : Shared}
theorem rc_listN {l b : Addr} {N : Nat} {Q : Value → Shared → Prop} (hu : A.units < cLine) (P : Nat → Shared → Prop) (hl : ListI prog w A E l b N P) (fin : ∀ s, P N s → Q (.bool false) s) (h : P 0 s) :
    wpAny (model prog w) A (richCompare .NotEq (.ref l) (.ref b)) Q E s := by
  obtain ⟨its, its2, n, n2, e1, e2, z1, z2, _⟩ := hl _ _ h
  refine wpAny_richCompare_same_room (op := .NotEq) ⟨_, e1, rfl⟩ ⟨_, e2, rfl⟩ PySem.F.slot_list_ne (call_here PySem.F.slot_list_ne ⟨_, e1, rfl⟩ PySem.F.entry_list_ne (PySem.F.args_list_ne_2 _ _) ?_) hu
  have turns := ne_turns (A := A) (R := wants (fun v s' => v ≠ .notImplemented ∧ Q v s') E) l b N P hl (fun s' q => ⟨(fun z => nomatch z), fin s' q⟩) _ 0 rfl (Nat.zero_le _) s h
  obtain ⟨hp, g, d, tk, os⟩ := s
  have f3 := AutoSeq1.sub_list_list
  have hne : ¬ (its.size != its2.size) = true := by simp [z1, z2]
  wp_walk using wpAny_loadPart' e1, wpAny_loadPart' e2
  refine ⟨plainId_quiet plain_eq_loop _, codeAny_builtin entry_eq_loop ?_⟩
  rw [Around.under_plainId plain_eq_loop _]
  exact turns
end
/-! ### as operators of the layer -/
section
variable {X : Cx} {n : Nat} {D : Eqv}
def rNeG (D : Eqv) : R2 := fun x y H Q => D x y H ∧ ∀ H', Ext H H' → Q (.bl false) H'
/-- xs != ys, lists whose items are equal -/
theorem op_neG (hD : Mon D) (h : EqG X n D) (hr : Room (n + 1) X.A) : OpR X (compareOp .NotEq) (rNeG (DList D)) := by
  intro pins s σ H x y v u Q I rx ry hq
  obtain ⟨⟨a, b, xs, ys, rfl, rfl, ha, hb, p⟩, q⟩ := hq
  cases rx
  cases ry
  show wpAny (model X.prog X.w) X.A (richCompare .NotEq (.ref a) (.ref b)) (EP X pins σ Q) X.xe s
  refine rc_listN (N := xs.length) hr.units0 (fun _ s' => LoopI X pins σ H s') (fun i s' z => ?_) (fun s' ⟨H1, I1, e1⟩ => ⟨.bl false, H1, I1, rfl, q H1 e1⟩) ⟨H, I, Ext.rfl'⟩
  obtain ⟨H1, I1, e1⟩ := id z
  obtain ⟨_, its, k, r, g1⟩ := I1.hok a _ (e1 _ _ ha)
  obtain ⟨_, its2, k2, r2, g2⟩ := I1.hok b _ (e1 _ _ hb)
  refine ⟨its.toArray, its2.toArray, k, k2, g1, g2, by rw [List.size_toArray, ← r.length], by rw [List.size_toArray, ← r2.length, ← p.1], fun h1 h2 => ?_⟩
  exact turnG hD h ⟨hr, rfl⟩ p r r2 i h1 h2 s' z
variable {f C : Addr} {sp : Sp}
def rNeOwn (C : Addr) (sp : Sp) : R2 := fun x y H Q => ∃ a b, x = .ref a ∧ y = .ref b ∧ IsIns H a C ∧ IsIns H b C ∧ sp [x, y] H (fun v H' => ∃ c, v = .bl c ∧ Q (.bl (!c)) H') E0
/-- o != p by the class's own == -/
theorem op_ne_own (F : Fn X.prog X.w X.K X.mg X.base n f sp []) (hr : Room (n + 1) X.A) (hm : Meth X.K C "__eq__" f) (hn : findIn X.K (.ref C) "__ne__" = some (some (.builtin "object.__ne__"))) (ho : mroIn X.K C (.type "object") = some true) :
    OpR X (compareOp .NotEq) (rNeOwn C sp) := by
  intro pins s σ H x y v u Q I rx ry hq
  obtain ⟨a, b, rfl, rfl, ia, ib, hq⟩ := hq
  cases rx
  cases ry
  obtain ⟨oa, da, Ja⟩ := inst_at I ia
  obtain ⟨ob, db, Jb⟩ := inst_at I ib
  have hu := hr.units
  show wpAny (model X.prog X.w) X.A (richCompare .NotEq (.ref a) (.ref b)) (EP X pins σ Q) X.xe s
  refine ne_K (by omega) I.kIn Ja Jb hn ho hm.at_ hm.fn ?_
  have ww := F.at_ (A1 := X.A.in1) (E := X.xe) ⟨hr.in1, rfl⟩ I (Paired.cons (relref a) (Paired.cons (relref b) Paired.nil)) hq
  refine wpAny_mono ww (fun v s' h => ?_) fun _ _ z => z
  obtain ⟨x, H', I', rx, c, rfl, q⟩ := h
  obtain rfl : v = Value.bool c := rx
  exact ⟨c, rfl, .bl (!c), H', I', rfl, q⟩
/-- o == p by the class's own ==, both answers -/
def rEqOwn (C : Addr) (sp : Sp) : R2 := fun x y H Q => ∃ a b, x = .ref a ∧ y = .ref b ∧ IsIns H a C ∧ IsIns H b C ∧ sp [x, y] H Q E0
theorem op_eq_own (F : Fn X.prog X.w X.K X.mg X.base n f sp []) (hr : Room n X.A) (hm : Meth X.K C "__eq__" f) : OpR X (compareOp .Eq) (rEqOwn C sp) := by
  intro pins s σ H x y v u Q I rx ry hq
  obtain ⟨a, b, rfl, rfl, ia, ib, hq⟩ := hq
  cases rx
  cases ry
  obtain ⟨oa, da, Ja⟩ := inst_at I ia
  obtain ⟨ob, db, Jb⟩ := inst_at I ib
  obtain ⟨m, hF⟩ := I.fr
  show wpAny (model X.prog X.w) X.A (richCompare .Eq (.ref a) (.ref b)) (EP X pins σ Q) X.xe s
  refine PySem.W.cmp_K (op := .Eq) (tb := .ref C) hr.units0 hF I.ok.mod.kin Ja Jb.type (by simp [PySem.W.notFirst]) hm.at_ hm.fn ?_
  have ww := F.at_ (A1 := X.A) (E := X.xe) ⟨hr, rfl⟩ I (Paired.cons (relref a) (Paired.cons (relref b) Paired.nil)) hq
  exact wpAny_mono ww (fun v s' h => cmp_back h) fun _ _ z => z
end
end UR

set_option linter.all false
set_option maxRecDepth 100000
set_option maxHeartbeats 2000000
/-! Own rules, fourth part: d.update(e) of two dicts; list(o) of an instance whose __iter__ hands back the iterator of a list. -/
namespace UR
open PySem PySem.Spec PyProof.Rows L2 PySem.W
section
variable {X : Cx}
/-- d.update(e), d and e two dicts with keys that are texts or ints -/
def rUpdate : V → List V → Hp → VK → Prop := fun x vs H Q => ∃ (a b : Addr) (ks ls : List (Key × V)), x = .ref a ∧ vs = [.ref b] ∧ a ≠ b ∧ H a = some (.dK ks) ∧ H b = some (.dK ls) ∧ ks.length + ls.length ≤ sizeLine ∧ Q .non (upd H a (.dK (mergeK ks ls)))
theorem mt_update : MtR X "dict.update" rUpdate := by
  intro pins s σ H x vs v us Q I rx rv h
  obtain ⟨a, b, ks, ls, rfl, rfl, hab, ha, hb, hz, q⟩ := h
  obtain rfl : v = Value.ref a := rx
  obtain ⟨u, rfl, ru⟩ := vals1 rv
  obtain rfl : u = Value.ref b := ru
  obtain ⟨_, na, va, ra, da⟩ := dk_of I.hok ha
  obtain ⟨_, nb, vb, rb, db⟩ := dk_of I.hok hb
  have la : ks.length = va.length := ra.length
  have lb : ls.length = vb.length := rb.length
  refine call_meetsIn PySem.F.slot_dict_update da.typeIs PySem.F.entry_dict_update (PySem.F.args_dict_update_2 _ _) (meets_dict_update (mixKind X.prog X.w) a b hab nb) ⟨va, vb, da, db, by omega, fun h' dd' _ sb => ?_⟩
  refine ⟨.non, _, d_write (t' := s.toks) I (by rw [ha]; exact True.intro) sb (let ⟨_, _, _, e, _⟩ := dd'; ⟨_, e⟩) (dk_new ?_ na (KV.merge rb ra) dd'), rfl, q⟩
  exact Nat.le_trans (length_mergeK ls ks) hz
end

section
variable {prog : Program} {w : World} {A : Around} {E : Value → Shared → Prop} {s : Shared} {it l : Addr} {i : Nat} {items : Array Value}
theorem py_item {x : Value} {Q : Option Value → Shared → Prop} (ho : s.heap.get? it = some (GNX.itObj l i)) (hl : s.heap.IsList l items) (hx : items[i]? = some x)
    (hQ : ∀ h', h'.get? it = some (GNX.itObj l (i + 1)) → Heap.SameBut it s.heap h' → Q (some x) { s with heap := h' }) : wpAny (model prog w) A (pyNext (.ref it)) Q E s := by
  have ty : s.TypeIs (.ref it) "list_iterator" := ⟨_, ho, rfl⟩
  unfold pyNext
  refine wpAny_bind (wpAny_attempt (wpAny_callSpecial?_slot (name := Str.ofString "__next__") ty slot_listiter_next (wpAny_call_entry slot_listiter_next ty entry_listiter_next ?_ (args_listiter_next _))))
  refine wpAny_mono (GNX.next_item (Q := fun v s' => Q (some v) s') (E := fun _ _ => False) ho hl hx hQ) (fun fin s' z => ?_) fun _ _ z => z.elim
  obtain ⟨v, rfl, z⟩ := z
  exact ⟨v, rfl, wpAny_pure z⟩
theorem py_end {Q : Option Value → Shared → Prop} (hh : A.handled = none) (ho : s.heap.get? it = some (GNX.itObj l i)) (hl : s.heap.IsList l items) (hx : items[i]? = none)
    (hQ : ∀ h1 h', h1.get? it = some (GNX.itEnd i) → Heap.SameBut it s.heap h1 → (∀ b o, h1.get? b = some o → h'.get? b = some o) → Q none { s with heap := h' }) : wpAny (model prog w) A (pyNext (.ref it)) Q E s := by
  have ty : s.TypeIs (.ref it) "list_iterator" := ⟨_, ho, rfl⟩
  unfold pyNext
  refine wpAny_bind (wpAny_attempt (wpAny_callSpecial?_slot (name := Str.ofString "__next__") ty slot_listiter_next (wpAny_call_entry slot_listiter_next ty entry_listiter_next ?_ (args_listiter_next _))))
  refine GNX.next_end hh ho hl hx fun h1 h' e vs a1 a2 a3 a4 a5 a6 => ?_
  refine wpAny_bind (wpAny_isInstance (T := "StopIteration") (b := true) ⟨_, a5, rfl⟩ isSubtype_stop ?_)
  exact wpAny_pure (hQ h1 h' a1 a2 a3)
end

section
variable {X : Cx} {pins : List (Addr × Obj)} {σ : L2.St} {H : Hp} {s : Shared} {l it q : Addr} {i : Nat} {ys : List V}
theorem it_turn {A1 : Around} {E : Value → Shared → Prop} {y : V} (I : Inv X pins σ H s) (hi : H it = some (ItO l it i)) (hl : SqL X.K H l ys) (hx : ys[i]? = some y) :
    wpAny (model X.prog X.w) A1 (pyNext (.ref it)) (fun r s' => ∃ u, r = some u ∧ RelV y u ∧ Inv X pins σ (upd H it (ItO l it (i + 1))) s') E s := by
  obtain ⟨its, rv, pl, _⟩ := I.list hl
  obtain ⟨u, hu, ru⟩ := rv.get hx
  refine py_item (itO_get I hi) pl.isList (by rw [List.getElem?_toArray]; exact hu) fun h' e sb => ⟨u, rfl, ru, ?_⟩
  exact I.write (t' := s.toks) (by rw [hi]; exact True.intro) (.inl rfl) (fun b o nb z => (sb.2 b nb).trans z) ⟨_, e⟩ (itO_ok e)
theorem it_stop {A1 : Around} {E : Value → Shared → Prop} (hh : A1.handled = none) (I : Inv X pins σ H s) (hi : H it = some (ItO l it i)) (hl : SqL X.K H l ys) (hx : ys[i]? = none) :
    wpAny (model X.prog X.w) A1 (pyNext (.ref it)) (fun r s' => r = none ∧ Inv X pins σ (upd H it (ItE it i)) s') E s := by
  obtain ⟨its, rv, pl, _⟩ := I.list hl
  refine py_end hh (itO_get I hi) pl.isList (by rw [List.getElem?_toArray]; exact rv.none_of hx) fun h1 h' e sb k => ⟨rfl, ?_⟩
  have I1 : Inv X pins σ (upd H it (ItE it i)) { s with heap := h1 } := I.write (t' := s.toks) (by rw [hi]; exact True.intro) (.inl rfl) (fun b o nb z => (sb.2 b nb).trans z) ⟨_, e⟩ (itE_ok e)
  exact I1.kept (t' := s.toks) k
/-- the loop that fills a list from such an iterator -/
theorem fill_turns {A1 : Around} {R : Result → Shared → Prop} (hh : A1.handled = none) (hz : ys.length ≤ sizeLine) (hlq : l ≠ q) (hli : l ≠ it) (hqi : q ≠ it)
    (done : ∀ H' s', Inv X pins σ H' s' → (∀ b, b ≠ q → b ≠ it → H' b = H b) → H' q = some (.lst ys) → R (.ok (.ret .none)) s') :
    ∀ (left i : Nat) (H1 : Hp) (s1 : Shared), ys.length - i = left → i ≤ ys.length → Inv X pins σ H1 s1 → (∀ b, b ≠ q → b ≠ it → H1 b = H b) → H1 q = some (.lst (ys.take i)) → H1 it = some (ItO l it i) → SqL X.K H l ys →
      codeAny (model X.prog X.w) A1 (.builtin "list.extend.loop" ⟨[.ref q, .ref it, .none], []⟩) R s1 := by
  have keep : ∀ (H1 : Hp), (∀ b, b ≠ q → b ≠ it → H1 b = H b) → SqL X.K H l ys → SqL X.K H1 l ys := fun H1 k h => by
    rcases h with (h | ⟨o, h⟩) | h
    · exact .inl (.inl ((k l hlq hli).trans h))
    · exact .inl (.inr ⟨o, (k l hlq hli).trans h⟩)
    · exact .inr h
  have hh1 : A1.in1.handled = none := hh
  intro left
  induction left with
  | zero =>
    intro i H1 s1 hk hi I k hq hit hl
    obtain rfl : i = ys.length := by omega
    refine codeAny_builtin PySem.F.entry_extend_loop ?_
    rw [Around.under_plainId PySem.F.plain_extend_loop _]
    refine wpAny_bind (wpAny_mono (it_stop hh1 I hit (keep H1 k hl) (by simp)) (fun r s' z => ?_) fun _ _ z => z)
    obtain ⟨rfl, I'⟩ := z
    refine wpAny_pure (done _ s' I' (fun b h1 h2 => by rw [upd_ne h2]; exact k b h1 h2) ?_)
    rw [upd_ne hqi, hq, List.take_length]
  | succ left ih =>
    intro i H1 s1 hk hi I k hq hit hl
    have lt : i < ys.length := by omega
    refine codeAny_builtin PySem.F.entry_extend_loop ?_
    rw [Around.under_plainId PySem.F.plain_extend_loop _]
    refine wpAny_bind (wpAny_mono (it_turn I hit (keep H1 k hl) (List.getElem?_eq_getElem lt)) (fun r s' z => ?_) fun _ _ z => z)
    obtain ⟨u, rfl, ru, I'⟩ := z
    have hq' : upd H1 it (ItO l it (i + 1)) q = some (.lst (ys.take i)) := by rw [upd_ne hqi]; exact hq
    obtain ⟨_, its, n, rv, len, e⟩ := I'.lstM hq'
    have lz : its.length ≤ sizeLine := by rw [← len, List.length_take]; omega
    have tk : ys.take (i + 1) = ys.take i ++ [ys[i]] := by rw [List.take_add_one, List.getElem?_eq_getElem lt]; rfl
    show wpAny _ A1.in1 (updateSeq q (·.push u) >>= _) _ _ _
    refine wpAny_bind (wpAny_updateSeq e rfl (wpAny_pure ⟨plainId_quiet PySem.F.plain_extend_loop _, ?_⟩) (by rw [List.size_toArray]; exact lz) (by show (its.toArray.push u).size ≤ sizeLine + 1; rw [Array.size_push, List.size_toArray]; omega))
    have I2 := I'.lset (f := (·.push u)) (its' := its ++ [u]) (ys := ys.take (i + 1)) (t' := s'.toks) hq' e (by simp) (by rw [tk]; exact rv.append (.cons ru .nil)) (by rw [List.length_take]; omega)
    exact ih (i + 1) _ _ (by omega) lt I2 (fun b h1 h2 => by rw [upd_ne h1, upd_ne h2]; exact k b h1 h2) upd_same (by rw [upd_ne hqi.symm, upd_same]) hl
end

section
variable {X : Cx} {n : Nat} {fI fL C : Addr} {spI spL : Sp}
/-- list(o): __iter__ hands back the iterator of a list, __len__ is asked for a hint -/
def rListOwn (K : PySem.W.Frag) (C : Addr) (spI spL : Sp) : List V → Hp → VK → Prop := fun vs H Q => ∃ a, vs = [.ref a] ∧ IsIns H a C ∧ ∀ q, H q = none →
  spI [.ref a] (upd H q (.lst [])) (fun v H1 => ∃ it l ys, v = .ref it ∧ H1 it = some (ItO l it 0) ∧ H1 q = some (.lst []) ∧ IsIns H1 a C ∧
    spL [.ref a] H1 (fun v H2 => ∃ k : Nat, v = .int k ∧ k ≤ sizeLine ∧ H2 it = some (ItO l it 0) ∧ H2 q = some (.lst []) ∧ SqL K H2 l ys ∧ l ≠ q ∧ l ≠ it ∧
      ∀ H3, (∀ b, b ≠ q → b ≠ it → H3 b = H2 b) → H3 q = some (.lst ys) → Q (.ref q) H3) E0) E0
theorem call_list_own (FI : Fn X.prog X.w X.K X.mg X.base n fI spI []) (FL : Fn X.prog X.w X.K X.mg X.base n fL spL []) (hc : X.calm = true) (hr : Room (n + 3) X.A) (mI : Meth X.K C "__iter__" fI) (mL : Meth X.K C "__len__" fL) :
    CallR X (.type "list") (rListOwn X.K C spI spL) := by
  intro pins s σ H vs us Q I rv h
  obtain ⟨a, rfl, ia, hq⟩ := h
  obtain ⟨u, rfl, ru⟩ := vals1 rv
  obtain rfl : u = Value.ref a := ru
  have hh : X.A.handled = none := I.ok.hd hc
  refine callType_codes (Q₁ := fun obj s₁ => obj = .ref s.heap.objs.size ∧ s₁ = { s with heap := s.heap.push { cls := .type "list", data := .seq #[] } }) PySem.F.called_list (PySem.F.typeCall_list_1 _) PySem.F.entry_list_init
    (code_list_new _ ⟨rfl, rfl⟩) fun obj s₁ h₁ => ?_
  obtain ⟨rfl, rfl⟩ := h₁
  have fr : H s.heap.objs.size = none := I.hok.fresh (Nat.le_refl _)
  have hq1 := hq _ fr
  have hS : (s.heap.push { cls := .type "list", data := .seq #[] }).get? s.heap.objs.size = some { cls := .type "list", data := .seq #[] } := Heap.get?_push_size _ rfl
  have I1 : Inv X pins σ (upd H s.heap.objs.size (.lst [])) { s with heap := s.heap.push { cls := .type "list", data := .seq #[] } } := I.lnew (its := []) (t' := s.toks) .nil (Nat.zero_le _)
  refine ⟨⟨_, hS, rfl⟩, PySem.F.args_list_init_2 _ _, ?_⟩
  generalize hP : s.heap.objs.size = q at *
  show wpAny _ _ (do let old ← Builtin.List.listItems (.ref q); Builtin.List.listUpdate (.ref q) (fun _ => #[]); letGo old.toList.reverse; Builtin.List.listExtendWith (.ref q) (.ref a) .none) _ _ _
  refine wpAny_bind ?_
  unfold Builtin.List.listItems
  refine wpAny_bind (wpAny_seqItems hS rfl (wpAny_pure ?_))
  show wpAny _ _ (updateSeq q (fun _ => #[]) >>= fun _ => letGo (#[] : Array Value).toList.reverse >>= fun _ => Builtin.List.listExtendWith (.ref q) (.ref a) .none) _ _ _
  refine wpAny_bind (wpAny_updateSeq hS rfl ?_)
  have I2 := I1.lset (f := fun _ => #[]) (its := []) (its' := []) (ys := []) (t' := s.toks) upd_same hS rfl .nil (Nat.zero_le _)
  rw [upd_upd] at I2
  refine wpAny_bind (wpAny_letGo ?_)
  generalize hs2 : ({ s with heap := (s.heap.push { cls := .type "list", data := .seq #[] }).update q (Obj.mapSeq fun _ => #[]), toks := s.toks } : Shared) = s2 at I2
  obtain ⟨dx, fs, ha⟩ := ia
  have na : a ≠ q := ne_of_none ha fr
  have ha2 : IsIns (upd H q (.lst [])) a C := ⟨dx, fs, by rw [upd_ne na]; exact ha⟩
  show wpAny _ X.A.in1.in1 (Builtin.List.listExtendWith (.ref q) (.ref a) .none) _ _ s2
  obtain ⟨ox, od, J⟩ := inst_at I2 ha2
  obtain ⟨m0, hF⟩ := I2.fr
  unfold Builtin.List.listExtendWith
  refine wpAny_bind (J.type.here ?_)
  have c1 : Builtin.List.listSameRef (.ref q) (.ref a) = false := by simp [Builtin.List.listSameRef, na.symm]
  have c2 : (Value.ref C == Value.type "list") = false := rfl
  have c3 : (Value.ref C == Value.type "tuple") = false := rfl
  simp only [c1, c2, c3, Bool.or_false, Bool.false_eq_true, if_false]
  refine wpAny_bind (PySem.W.owit_iter hF I2.ok.mod.kin J mI.at_ mI.fn ?_)
  have r2 : Room n X.A.in1.in1 := (hr.in1.in1).mono (by omega)
  have wI := FI.at_ (A1 := X.A.in1.in1) (E := wants (fun r s₂ => r = .none ∧ EP X pins σ Q (.ref q) s₂) X.xe ∘ .error) ⟨r2, rfl⟩ I2 (Paired.cons (relref a) Paired.nil) hq1
  refine wpAny_mono wI (fun v s3 z => ?_) fun _ _ z => z
  obtain ⟨x, H1, I3, rx, it, l, ys, rfl, hit, hq3, ia3, hl3⟩ := z
  obtain rfl : v = Value.ref it := rx
  have git := itO_get I3 hit
  unfold PySem.W.OwitIt
  refine wpAny_specialOf (T := "list_iterator") ⟨_, git, rfl⟩ slot_listiter_next.lookup ?_
  refine wpAny_bind (wpAny_holding ?_)
  unfold Builtin.List.listLengthHint
  obtain ⟨ox3, od3, J3⟩ := inst_at I3 ia3
  obtain ⟨m3, hF3⟩ := I3.fr
  refine wpAny_bind (wpAny_bind (J3.type.here ((looks_findIn I3.kIn mL.at_).here ?_)))
  refine PySem.W.KFB.if_not rfl ?_
  refine PySem.W.KFB.if_so rfl ?_
  refine wpAny_bind (wpAny_rule ?_)
  refine wpAny_bind (wpAny_attempt ?_)
  refine PySem.W.len_K hF3 I3.ok.mod.kin J3 mL.at_ mL.fn ?_
  have wL := FL.at_ (A1 := X.A.in1.in1.in1) (E := fun _ _ => False) ⟨(hr.in1.in1.in1 : Room n _), rfl⟩ I3 (Paired.cons (relref a) Paired.nil) hl3
  refine wpAny_mono wL (fun v s4 z => ?_) fun _ _ z => z.elim
  obtain ⟨x, H2, I4, rx, k, rfl, hk, hit4, hq4, hl4, nlq, nli, fin⟩ := z
  obtain ⟨t, rfl⟩ := rx
  have hkl := sizeLine_eq
  refine ⟨⟨Int.natCast_nonneg _, by omega⟩, ?_⟩
  have hh2 : X.A.in1.in1.handled = none := hh
  have hqi : q ≠ it := ne_of hq4 hit4 (fun z => nomatch z)
  have hzs : ys.length ≤ sizeLine := let ⟨_, _, _, z⟩ := I4.list hl4; z
  refine wpAny_bind (wpAny_pure ?_)
  refine PySem.W.KFB.if_not (notLongL hk) ?_
  refine wpAny_pure ?_
  have run : ∀ s5, Inv X pins σ H2 s5 → codeAny (model X.prog X.w) X.A.in1 (.builtin "list.extend.loop" ⟨[.ref q, .ref it, .none], []⟩) (wants (fun r s₂ => r = .none ∧ EP X pins σ Q (.ref q) s₂) X.xe) s5 := fun s5 I5 =>
    fill_turns (H := H2) (A1 := X.A.in1) hh hzs nlq nli hqi (fun H' s' I' kp hq' => ⟨rfl, .ref q, H', I', rfl, fin H' kp hq'⟩) _ 0 H2 s5 rfl (Nat.zero_le _) I5 (fun _ _ _ => rfl) hq4 hit4 hl4
  have back : upd H2 q (.lst []) = H2 := by
    funext b
    by_cases hb : b = q
    · rw [hb, upd_same, hq4]
    · rw [upd_ne hb]
  have I4' := I4.tok (s4.toks + 1)
  generalize hs5 : ({ s4 with toks := s4.toks + 1 } : Shared) = s5 at I4' ⊢
  refine wpAny_ite_split (fun _ => ?_) (fun _ => wpAny_pure ⟨plainId_quiet PySem.F.plain_extend_loop _, run _ I4'⟩)
  refine wpAny_bind (wpAny_rule ?_)
  refine wpAny_bind ?_
  show wpAny _ _ (updateSeq q (·.push .none) >>= fun _ => updateSeq q (·.pop)) _ _ _
  obtain ⟨_, its, n5, r5, l5, e5⟩ := I4'.lstM hq4
  cases r5
  refine wpAny_bind (wpAny_updateSeq e5 rfl ?_)
  have I6 := I4'.lset (f := (·.push Value.none)) (its' := [Value.none]) (ys := [.non]) (t' := s5.toks) hq4 e5 (by simp) (.cons rfl .nil) (by rw [List.length_singleton, sizeLine_eq]; decide)
  obtain ⟨_, its6, n6, r6, l6, e6⟩ := I6.lstM upd_same
  obtain ⟨u6, rfl, ru6⟩ := r6.one
  refine wpAny_updateSeq e6 rfl ?_ (by show 1 ≤ sizeLine; rw [sizeLine_eq]; decide) (by show 0 ≤ sizeLine + 1; exact Nat.zero_le _)
  refine wpAny_pure ⟨plainId_quiet PySem.F.plain_extend_loop _, run _ ?_⟩
  have I7 := I6.lset (f := (·.pop)) (its := [u6]) (its' := []) (ys := []) (t' := s5.toks) upd_same e6 (by rfl) .nil (Nat.zero_le _)
  rw [upd_upd, back] at I7
  exact I7
end
end UR

set_option linter.all false
set_option maxRecDepth 100000
set_option maxHeartbeats 2000000
/-! Own rules, fifth part: list(zip(a, b)). -/
namespace UR
open PySem PySem.Spec PyProof.Rows L2 PySem.W
theorem zip_nolen : typeLookup (.type "zip") "__len__" = pure none := am_miss_of_fast (by decide +kernel)
theorem zip_nohint : typeLookup (.type "zip") "__length_hint__" = pure none := am_miss_of_fast (by decide +kernel)
/-- the zip at z ahead of its i-th turn -/
def ZSt (z TI TO i1 i2 a b : Addr) (i : Nat) (h : Heap) : Prop :=
  IsPair h TI (.ref i1) (.ref i2) ∧ h.IsListIter i1 a i ∧ h.IsListIter i2 b i ∧ ((IsZip h z TI TO .none ∧ ∃ x y, IsPair h TO x y) ∨ ∃ T f oT, IsZipHeld h z TI TO T f ∧ h.get? T = some oT ∧ T ∉ [z, TI, TO, i1, i2])
theorem ZSt.keep {z TI TO i1 i2 a b : Addr} {i : Nat} {h h' : Heap} {q : Addr} (st : ZSt z TI TO i1 i2 a b i h) (nq : q ∉ [z, TI, TO, i1, i2]) (k : ∀ c o, c ≠ q → h.get? c = some o → h'.get? c = some o) (kq : ∀ o, h.get? q = some o → ∃ o', h'.get? q = some o') : ZSt z TI TO i1 i2 a b i h' := by
  obtain ⟨p, l1, l2, st⟩ := st
  simp only [List.mem_cons, List.not_mem_nil, or_false, not_or] at nq
  obtain ⟨n1, n2, n3, n4, n5⟩ := nq
  refine ⟨k _ _ (Ne.symm n2) p, l1.at fun o e => k _ _ (Ne.symm n4) e, l2.at fun o e => k _ _ (Ne.symm n5) e, ?_⟩
  rcases st with ⟨g, x, y, e⟩ | ⟨T, f, oT, g, e, nT⟩
  · exact .inl ⟨k _ _ (Ne.symm n1) g, x, y, k _ _ (Ne.symm n3) e⟩
  · by_cases hT : T = q
    · subst hT
      obtain ⟨o', e'⟩ := kq _ e
      exact .inr ⟨T, f, o', k _ _ (Ne.symm n1) g, e', nT⟩
    · exact .inr ⟨T, f, oT, k _ _ (Ne.symm n1) g, k _ _ hT e, nT⟩
section
variable {prog : Program} {w : World} {A : Around} {E : Value → Shared → Prop} {s : Shared} {z TI TO i1 i2 a b : Addr} {i : Nat} {xs ys : Array Value}
theorem zst_item {x y : Value} {Q : Option Value → Shared → Prop} (D : ZipApart z TI TO i1 i2 a b) (st : ZSt z TI TO i1 i2 a b i s.heap) (h1 : s.heap.IsList a xs) (h2 : s.heap.IsList b ys) (hx : xs[i]? = some x) (hy : ys[i]? = some y)
    (hQ : ∀ h', ZSt z TI TO i1 i2 a b (i + 1) h' → IsPair h' s.heap.objs.size x y → (∀ c o, c ∉ [z, TI, TO, i1, i2] → s.heap.get? c = some o → h'.get? c = some o) → Q (some (.ref s.heap.objs.size)) { s with heap := h' }) :
    wpAny (model prog w) A (pyNext (.ref z)) Q E s := by
  obtain ⟨p, l1, l2, st⟩ := st
  rcases st with ⟨g, x0, y0, e⟩ | ⟨T, f, oT, g, e, nT⟩
  · have young : s.heap.objs.size ∉ [z, TI, TO, i1, i2] := by
      obtain ⟨_, e1, _⟩ := l1
      obtain ⟨_, e2, _⟩ := l2
      have c1 := Heap.lt_size g
      have c2 := Heap.lt_size p
      have c3 := Heap.lt_size e
      have c4 := Heap.lt_size e1
      have c5 := Heap.lt_size e2
      simp only [List.mem_cons, List.not_mem_nil, or_false, not_or]
      exact ⟨Nat.ne_of_gt c1, Nat.ne_of_gt c2, Nat.ne_of_gt c3, Nat.ne_of_gt c4, Nat.ne_of_gt c5⟩
    refine wpAny_pyNext_zip_item D g p e l1 l2 h1 h2 hx hy fun h' a1 a2 a3 a4 a5 a6 a7 => hQ h' ⟨a7 _ _ D.TIz D.TITO D.TIi1 D.TIi2 p, a3, a4, .inr ⟨_, false, _, a1, a5, young⟩⟩ a5 fun c o hc q => ?_
    simp only [List.mem_cons, List.not_mem_nil, or_false, not_or] at hc
    exact a7 c o hc.1 hc.2.2.1 hc.2.2.2.1 hc.2.2.2.2 q
  · have nT' := nT
    simp only [List.mem_cons, List.not_mem_nil, or_false, not_or] at nT'
    refine wpAny_pyNext_zip_item_held D g e p l1 l2 h1 h2 hx hy fun h' a1 a3 a4 a5 a6 a7 => hQ h' ⟨a7 _ _ D.TIz D.TIi1 D.TIi2 p, a3, a4, .inr ⟨_, true, oT, a1, a7 _ _ nT'.1 nT'.2.2.2.1 nT'.2.2.2.2 e, nT⟩⟩ a5 fun c o hc q => ?_
    simp only [List.mem_cons, List.not_mem_nil, or_false, not_or] at hc
    exact a7 c o hc.1 hc.2.2.2.1 hc.2.2.2.2 q
theorem zst_end {Q : Option Value → Shared → Prop} (hh : A.handled = none) (D : ZipApart z TI TO i1 i2 a b) (st : ZSt z TI TO i1 i2 a b i s.heap) (h1 : s.heap.IsList a xs) (h2 : s.heap.IsList b ys) (he : xs[i]? = none ∨ ys[i]? = none)
    (hQ : ∀ h', (∀ c o, c ∉ [z, TI, TO, i1, i2] → s.heap.get? c = some o → h'.get? c = some o) → Q none { s with heap := h' }) : wpAny (model prog w) A (pyNext (.ref z)) Q E s := by
  obtain ⟨p, l1, l2, st⟩ := st
  rcases st with ⟨g, x0, y0, e⟩ | ⟨T, f, oT, g, e, nT⟩
  · refine wpAny_pyNext_zip_end hh D g p e l1 l2 h1 h2 he fun h' a7 => hQ h' fun c o hc q => ?_
    simp only [List.mem_cons, List.not_mem_nil, or_false, not_or] at hc
    exact a7 c o hc.1 hc.2.2.1 hc.2.2.2.1 hc.2.2.2.2 q
  · refine wpAny_pyNext_zip_end_held hh D g e p l1 l2 h1 h2 he fun h' a7 => hQ h' fun c o hc q => ?_
    simp only [List.mem_cons, List.not_mem_nil, or_false, not_or] at hc
    exact a7 c o hc.1 hc.2.2.2.1 hc.2.2.2.2 q
end
/-- the pairs that were made -/
def PairsAt (H : Hp) : List Addr → List (V × V) → Prop
  | [], [] => True
  | t :: ts, p :: ps => H t = some (.tup [p.1, p.2]) ∧ PairsAt H ts ps
  | _, _ => False
theorem PairsAt.same {H H' : Hp} (k : ∀ c xs, H c = some (.tup xs) → H' c = some (.tup xs)) : ∀ {ts : List Addr} {ps : List (V × V)}, PairsAt H ts ps → PairsAt H' ts ps
  | [], [], _ => True.intro
  | _ :: _, _ :: _, h => ⟨k _ _ h.1, PairsAt.same k h.2⟩
  | [], _ :: _, h => h.elim
  | _ :: _, [], h => h.elim
theorem PairsAt.snoc {H : Hp} {t : Addr} {p : V × V} (e : H t = some (.tup [p.1, p.2])) : ∀ {ts : List Addr} {ps : List (V × V)}, PairsAt H ts ps → PairsAt H (ts ++ [t]) (ps ++ [p])
  | [], [], _ => ⟨e, True.intro⟩
  | _ :: _, _ :: _, h => ⟨h.1, PairsAt.snoc e h.2⟩
  | [], _ :: _, h => h.elim
  | _ :: _, [], h => h.elim
theorem PairsAt.len {H : Hp} : ∀ {ts : List Addr} {ps : List (V × V)}, PairsAt H ts ps → ts.length = ps.length
  | [], [], _ => rfl
  | _ :: _, _ :: _, h => congrArg Nat.succ (PairsAt.len h.2)
  | [], _ :: _, h => h.elim
  | _ :: _, [], h => h.elim
section
variable {X : Cx} {pins : List (Addr × Obj)} {σ : L2.St} {H : Hp} {z TI TO i1 i2 a b q : Addr} {xs ys : List V}
theorem zip_turns {A1 : Around} {R : Result → Shared → Prop} (hh : A1.handled = none) (D : ZipApart z TI TO i1 i2 a b) (hz : xs.length ≤ sizeLine) (ha : SqL X.K H a xs) (hb : SqL X.K H b ys) (hn : H q = none)
    (done : ∀ H' s' ts, Inv X pins σ H' s' → Same H H' → H' q = some (.lst (ts.map V.ref)) → PairsAt H' ts (xs.zip ys) → R (.ok (.ret .none)) s') :
    ∀ (left i : Nat) (H1 : Hp) (s1 : Shared) (ts : List Addr), (xs.zip ys).length - i = left → i ≤ (xs.zip ys).length → Inv X pins σ H1 s1 → (∀ c ∈ [z, TI, TO, i1, i2], FpOk X pins H1 c) → (∀ c ∈ [z, TI, TO, i1, i2], c < s1.heap.objs.size) → ZSt z TI TO i1 i2 a b i s1.heap → Same H H1 →
      H1 q = some (.lst (ts.map V.ref)) → PairsAt H1 ts ((xs.zip ys).take i) → codeAny (model X.prog X.w) A1 (.builtin "list.extend.loop" ⟨[.ref q, .ref z, .none], []⟩) R s1 := by
  have hh1 : A1.in1.handled = none := hh
  have zl : (xs.zip ys).length = min xs.length ys.length := List.length_zip
  intro left
  induction left with
  | zero =>
    intro i H1 s1 ts hk hi I hf hy st sm hq hp
    obtain rfl : i = (xs.zip ys).length := by omega
    obtain ⟨its, rv, p1, _⟩ := I.list (sm.seq ha)
    obtain ⟨its2, rv2, p2, _⟩ := I.list (sm.seq hb)
    have le1 := rv.length
    have le2 := rv2.length
    refine codeAny_builtin PySem.F.entry_extend_loop ?_
    rw [Around.under_plainId PySem.F.plain_extend_loop _]
    refine wpAny_bind (zst_end hh1 D st p1.isList p2.isList ?_ fun h' k => ?_)
    · by_cases c : xs.length ≤ ys.length
      · exact .inl (by rw [List.getElem?_toArray]; exact List.getElem?_eq_none (by omega))
      · exact .inr (by rw [List.getElem?_toArray]; exact List.getElem?_eq_none (by omega))
    · refine wpAny_pure (done _ _ ts (I.turnedL (t' := s1.toks) k hf) sm hq ?_)
      rw [List.take_length] at hp
      exact hp
  | succ left ih =>
    intro i H1 s1 ts hk hi I hf hy st sm hq hp
    have lt : i < (xs.zip ys).length := by omega
    have ltx : i < xs.length := by omega
    have lty : i < ys.length := by omega
    obtain ⟨its, rv, p1, _⟩ := I.list (sm.seq ha)
    obtain ⟨its2, rv2, p2, _⟩ := I.list (sm.seq hb)
    obtain ⟨u, hu, ru⟩ := rv.get (List.getElem?_eq_getElem ltx)
    obtain ⟨u2, hu2, ru2⟩ := rv2.get (List.getElem?_eq_getElem lty)
    refine codeAny_builtin PySem.F.entry_extend_loop ?_
    rw [Around.under_plainId PySem.F.plain_extend_loop _]
    refine wpAny_bind (zst_item (x := u) (y := u2) D st p1.isList p2.isList (by rw [List.getElem?_toArray]; exact hu) (by rw [List.getElem?_toArray]; exact hu2) fun h' st' pr k => ?_)
    generalize hT : s1.heap.objs.size = T at *
    have nT : H1 T = none := I.hok.fresh (Nat.le_of_eq hT)
    have new : ObjOk X.prog X.w (upd H1 T (.tup [xs[i], ys[i]])) h' T (.tup [xs[i], ys[i]]) := ⟨by show 2 ≤ sizeLine; decide, [u, u2], .cons ru (.cons ru2 .nil), ⟨_, pr, rfl, _, rfl⟩⟩
    have I1 : Inv X pins σ (upd H1 T (.tup [xs[i], ys[i]])) { s1 with heap := h' } := I.turnedNew (t' := s1.toks) k hf (Nat.le_of_eq hT) new
    have nqT : q ≠ T := ne_of_none hq nT
    have hq' : upd H1 T (.tup [xs[i], ys[i]]) q = some (.lst (ts.map V.ref)) := by rw [upd_ne nqT]; exact hq
    obtain ⟨_, itq, nq, rq, lq, eq⟩ := I1.lstM hq'
    have tl := hp.len
    have lz : itq.length ≤ sizeLine := by rw [← lq, List.length_map, tl, List.length_take]; omega
    have nqch : q ∉ [z, TI, TO, i1, i2] := fun m => by
      have e := (hf q m).1
      rw [hq] at e
      cases e
    show wpAny _ A1.in1 (updateSeq q (·.push (.ref T)) >>= _) _ _ _
    refine wpAny_bind (wpAny_updateSeq eq rfl (wpAny_pure ⟨plainId_quiet PySem.F.plain_extend_loop _, ?_⟩) (by rw [List.size_toArray]; exact lz) (by show (itq.toArray.push (Value.ref T)).size ≤ sizeLine + 1; rw [Array.size_push, List.size_toArray]; omega))
    have I2 := I1.lset (f := (·.push (Value.ref T))) (its' := itq ++ [Value.ref T]) (ys := (ts ++ [T]).map V.ref) (t' := s1.toks) hq' eq (by simp) (by rw [List.map_append]; exact rq.append (.cons rfl .nil)) (by rw [List.length_map, List.length_append, tl, List.length_take, List.length_singleton]; omega)
    have tk : (xs.zip ys).take (i + 1) = (xs.zip ys).take i ++ [(xs[i], ys[i])] := by rw [List.take_add_one, List.getElem?_eq_getElem lt, List.getElem_zip]; rfl
    have sm1 : Same H1 (upd (upd H1 T (.tup [xs[i], ys[i]])) q (.lst ((ts ++ [T]).map V.ref))) → True := fun _ => True.intro
    refine ih (i + 1) _ _ (ts ++ [T]) (by omega) lt I2 (fun c hc => ?_) (fun c hc => ?_) (st'.keep nqch (fun c o hc e => (Heap.get?_update_other _ _ (Ne.symm hc)).trans e) fun o e => ⟨_, Heap.get?_update_self _ eq rfl⟩) (fun c o e => ?_) upd_same ?_
    · have cq : c ≠ q := fun e => nqch (e ▸ hc)
      have cT : c ≠ T := fun e => by
        have lc := hy c hc
        rw [e] at lc
        exact Nat.lt_irrefl _ lc
      exact ⟨by rw [upd_ne cq, upd_ne cT]; exact (hf c hc).1, (hf c hc).2⟩
    · have lc := hy c hc
      have lT := Heap.lt_size pr
      show c < (h'.update q _).objs.size
      rw [show (h'.update q (Obj.mapSeq (·.push (Value.ref T)))).objs.size = h'.objs.size from (Heap.SameBut.update ..).1]
      exact Nat.lt_trans lc lT
    · have e1 := sm c o e
      rw [upd_ne (ne_of_none e hn), upd_ne (ne_of_none e1 nT)]
      exact e1
    · rw [tk]
      refine PairsAt.snoc (by rw [upd_ne nqT.symm, upd_same]) (hp.same fun c zs e => ?_)
      rw [upd_ne (ne_of e hq (fun z => nomatch z)), upd_ne (ne_of_none e nT)]
      exact e
end

theorem off5 (n k : Nat) (h : k < 5) : n ≤ n + k ∧ n + k < n + 5 := ⟨Nat.le_add_right _ _, Nat.add_lt_add_left h _⟩
section
variable {X : Cx}
/-- list(zip(a, b)), two lists -/
def tListZip (K : PySem.W.Frag) (ta : TA) : TE := fun σ H Q => ta σ H fun vs H1 => ∃ a b xs ys, vs = [.ref a, .ref b] ∧ SqL K H1 a xs ∧ SqL K H1 b ys ∧
  ∀ H2 q ts, Same H1 H2 → H1 q = none → H2 q = some (.lst (ts.map V.ref)) → PairsAt H2 ts (xs.zip ys) → Q (.ref q) H2
theorem pe_listZip {e e2 : Expr} {ta : TA} {p p2 pos pos2 : Pos} (hc : X.calm = true) (hg : Gl X "zip") (hm : X.mg "zip" = none) (hg2 : Gl X "list") (hm2 : X.mg "list" = none) (ha : PA X [e, e2] ta)
    (hs2 : starEach [.Call (.Name "zip" p2) [e, e2] [] pos2] X.env = (false, eval (.Call (.Name "zip" p2) [e, e2] [] pos2) X.env) :: starEach [] X.env := by rfl)
    (hs : starEach [e, e2] X.env = (false, eval e X.env) :: starEach [e2] X.env := by rfl) (hpl : (backTo pos2 (starEach [e2] X.env)).any (·.1) = false := by rfl) :
    PE X (.Call (.Name "list" p) [.Call (.Name "zip" p2) [e, e2] [] pos2] [] pos) (tListZip X.K ta) := by
  refine ⟨fun pins s σ H Q I h => ?_⟩
  have hh : X.A.handled = none := I.ok.hd hc
  refine Call_ (ld_blt I hg2 hm2 PyProof.Rows.boot_list (PyProof.Rows.callWith_type1 ?_ hs2 rfl))
  rw [hs2]
  show wpAny _ _ (spliced ((false, eval (.Call (.Name "zip" p2) [e, e2] [] pos2) X.env) :: backTo pos (starEach [] X.env))) _ _ s
  refine Calls.spliced_cons ?_
  refine Call_ (ld_blt I hg hm PyProof.Rows.boot_zip (PyProof.Rows.callWith_type1 (thn (ha.run pos2 pins s σ H _ I h) fun us s1 ⟨vs, H1, I1, r1, q1⟩ => ?_) hs hpl))
  obtain ⟨a, b, xs, ys, rfl, hqx, hqy, fin⟩ := q1
  obtain ⟨u, u', rfl, ru, ru'⟩ := vals2 r1
  obtain rfl : u = Value.ref a := ru
  obtain rfl : u' = Value.ref b := ru'
  obtain ⟨its, rv, p1, lx⟩ := I1.list hqx
  obtain ⟨its2, rv2, p2', _⟩ := I1.list hqy
  have D := PySem.W.ktu_apart s1.heap.objs.size a b p1.lt p2'.lt
  refine call_zip_2 p1.isList p2'.isList fun h' hz hTI hTO h1 h2 hsz hk => ?_
  have I2 : Inv X pins σ H1 { s1 with heap := h' } := I1.kept (t' := s1.toks) hk
  have st0 : ZSt (s1.heap.objs.size + 4) (s1.heap.objs.size + 2) (s1.heap.objs.size + 3) s1.heap.objs.size (s1.heap.objs.size + 1) a b 0 h' := ⟨hTI, h1, h2, .inl ⟨hz, _, _, hTO⟩⟩
  have hf : ∀ c ∈ [s1.heap.objs.size + 4, s1.heap.objs.size + 2, s1.heap.objs.size + 3, s1.heap.objs.size, s1.heap.objs.size + 1], FpOk X pins H1 c ∧ c < h'.objs.size := fun c hc => by
    have hle : s1.heap.objs.size ≤ c ∧ c < s1.heap.objs.size + 5 := by
      simp only [List.mem_cons, List.not_mem_nil, or_false] at hc
      rcases hc with e | e | e | e | e <;> rw [e]
      · exact off5 _ 4 (by decide)
      · exact off5 _ 2 (by decide)
      · exact off5 _ 3 (by decide)
      · exact off5 _ 0 (by decide)
      · exact off5 _ 1 (by decide)
    exact ⟨I1.fpOk hle.1 (I1.hok.fresh hle.1), by rw [hsz]; exact hle.2⟩
  generalize s1.heap.objs.size + 4 = z at *
  generalize s1.heap.objs.size + 2 = TI at *
  generalize s1.heap.objs.size + 3 = TO at *
  generalize s1.heap.objs.size + 1 = i2 at *
  generalize s1.heap.objs.size = i1 at *
  refine Calls.spliced_nil ?_
  generalize hs2' : ({ s1 with heap := h' } : Shared) = s2 at I2 ⊢
  have eh : h' = s2.heap := by rw [← hs2']
  rw [eh] at st0 hf hz
  refine callType_codes (Q₁ := fun obj s₁ => obj = .ref s2.heap.objs.size ∧ s₁ = { s2 with heap := s2.heap.push { cls := .type "list", data := .seq #[] } }) PySem.F.called_list (PySem.F.typeCall_list_1 _) PySem.F.entry_list_init
    (code_list_new _ ⟨rfl, rfl⟩) fun obj s₁ h₁ => ?_
  obtain ⟨rfl, rfl⟩ := h₁
  have fr : H1 s2.heap.objs.size = none := I2.hok.fresh (Nat.le_refl _)
  have hS : (s2.heap.push { cls := .type "list", data := .seq #[] }).get? s2.heap.objs.size = some { cls := .type "list", data := .seq #[] } := Heap.get?_push_size _ rfl
  have I3 : Inv X pins σ (upd H1 s2.heap.objs.size (.lst [])) { s2 with heap := s2.heap.push { cls := .type "list", data := .seq #[] } } := I2.lnew (its := []) (t' := s2.toks) .nil (Nat.zero_le _)
  refine ⟨⟨_, hS, rfl⟩, PySem.F.args_list_init_2 _ _, ?_⟩
  have nq : s2.heap.objs.size ∉ [z, TI, TO, i1, i2] := fun m => Nat.lt_irrefl _ (hf _ m).2
  have st1 : ZSt z TI TO i1 i2 a b 0 (s2.heap.push { cls := .type "list", data := .seq #[] }) := st0.keep nq (fun c o _ e => Heap.get?_push_of_some _ e) fun o e => ⟨_, hS⟩
  have hf1 : ∀ c ∈ [z, TI, TO, i1, i2], FpOk X pins (upd H1 s2.heap.objs.size (.lst [])) c ∧ c < (s2.heap.push { cls := .type "list", data := .seq #[] }).objs.size := fun c hc => by
    have q := hf c hc
    exact ⟨⟨by rw [upd_ne (Nat.ne_of_lt q.2)]; exact q.1.1, q.1.2⟩, by rw [Heap.size_push]; exact Nat.lt_succ_of_lt q.2⟩
  have hz3 : IsZip (s2.heap.push { cls := .type "list", data := .seq #[] }) z TI TO .none := Heap.get?_push_of_some _ hz
  generalize hs3 : ({ s2 with heap := s2.heap.push { cls := .type "list", data := .seq #[] } } : Shared) = s3 at I3 ⊢
  have e3 : s2.heap.push { cls := .type "list", data := .seq #[] } = s3.heap := by rw [← hs3]
  rw [e3] at st1 hf1 hS hz3
  generalize s2.heap.objs.size = q at *
  -- old items (none) are let go
  show wpAny _ _ (do let old ← Builtin.List.listItems (.ref q); Builtin.List.listUpdate (.ref q) (fun _ => #[]); letGo old.toList.reverse; Builtin.List.listExtendWith (.ref q) (.ref z) .none) _ _ _
  refine wpAny_bind ?_
  unfold Builtin.List.listItems
  refine wpAny_bind (wpAny_seqItems hS rfl (wpAny_pure ?_))
  show wpAny _ _ (updateSeq q (fun _ => #[]) >>= fun _ => letGo (#[] : Array Value).toList.reverse >>= fun _ => Builtin.List.listExtendWith (.ref q) (.ref z) .none) _ _ _
  refine wpAny_bind (wpAny_updateSeq hS rfl ?_)
  have I4 := I3.lset (f := fun _ => #[]) (its := []) (its' := []) (ys := []) (t' := s3.toks) upd_same hS rfl .nil (Nat.zero_le _)
  rw [upd_upd] at I4
  have k4 : ∀ c o, c ≠ q → s3.heap.get? c = some o → (s3.heap.update q (Obj.mapSeq fun _ => #[])).get? c = some o := fun c o hc e => (Heap.get?_update_other _ _ (Ne.symm hc)).trans e
  have st4 : ZSt z TI TO i1 i2 a b 0 (s3.heap.update q (Obj.mapSeq fun _ => #[])) := st1.keep nq k4 fun o e => ⟨_, Heap.get?_update_self _ hS rfl⟩
  have hz4 : IsZip (s3.heap.update q (Obj.mapSeq fun _ => #[])) z TI TO .none := k4 _ _ (fun e => nq (by simp [e])) hz3
  have sz4 : (s3.heap.update q (Obj.mapSeq fun _ => #[])).objs.size = s3.heap.objs.size := (Heap.SameBut.update ..).1
  have hf4 : ∀ c ∈ [z, TI, TO, i1, i2], FpOk X pins (upd H1 q (.lst [])) c ∧ c < (s3.heap.update q (Obj.mapSeq fun _ => #[])).objs.size := fun c hc => by rw [sz4]; exact hf1 c hc
  refine wpAny_bind (wpAny_letGo ?_)
  have run : ∀ s5, Inv X pins σ (upd H1 q (.lst [])) s5 → (∀ c ∈ [z, TI, TO, i1, i2], c < s5.heap.objs.size) → ZSt z TI TO i1 i2 a b 0 s5.heap →
      codeAny (model X.prog X.w) X.A.in1 (.builtin "list.extend.loop" ⟨[.ref q, .ref z, .none], []⟩) (wants (fun r s₂ => r = .none ∧ EP X pins σ Q (.ref q) s₂) X.xe) s5 := fun s5 I5 g1 g2 =>
    zip_turns (H := H1) (A1 := X.A.in1) hh D lx hqx hqy fr (fun H' s' ts I' sm e1 e2 => ⟨rfl, .ref q, H', I', rfl, fin H' q ts sm fr e1 e2⟩) _ 0 _ s5 [] rfl (Nat.zero_le _) I5 (fun c hc => (hf1 c hc).1) g1 g2
      (fun c o e => by rw [upd_ne (ne_of_none e fr)]; exact e) upd_same True.intro
  generalize hs4 : ({ s3 with heap := s3.heap.update q (Obj.mapSeq fun _ => #[]), toks := s3.toks } : Shared) = s4 at I4
  have e4 : s3.heap.update q (Obj.mapSeq fun _ => #[]) = s4.heap := by rw [← hs4]
  rw [e4] at st4 hf4 hz4
  have hTz : s4.TypeIs (.ref z) "zip" := ⟨_, hz4, rfl⟩
  unfold Builtin.List.listExtendWith
  refine wpAny_bind (wpAny_typeOf hTz ?_)
  have c1 : Builtin.List.listSameRef (.ref q) (.ref z) = false := by
    have nz : q ≠ z := fun e => nq (by simp [e])
    simp [Builtin.List.listSameRef, nz]
  have c2 : (Value.type "zip" == Value.type "list") = false := by decide
  have c3 : (Value.type "zip" == Value.type "tuple") = false := by decide
  simp only [c1, c2, c3, Bool.or_false, Bool.false_eq_true, if_false]
  refine wpAny_bind (wpAny_pyIter_zip hz4 ?_)
  refine wpAny_bind (wpAny_holding ?_)
  unfold Builtin.List.listLengthHint
  refine wpAny_bind (wpAny_specialOf hTz zip_nolen ?_)
  refine PySem.W.KFB.if_not rfl ?_
  refine PySem.W.KFB.if_not rfl ?_
  refine wpAny_bind (wpAny_specialOf hTz zip_nohint ?_)
  refine wpAny_pure ?_
  refine wpAny_ite_split (fun _ => ?_) (fun _ => wpAny_pure ⟨plainId_quiet PySem.F.plain_extend_loop _, run _ I4 (fun c hc => (hf4 c hc).2) st4⟩)
  refine wpAny_bind (wpAny_rule ?_)
  refine wpAny_bind ?_
  show wpAny _ _ (updateSeq q (·.push .none) >>= fun _ => updateSeq q (·.pop)) _ _ _
  obtain ⟨_, it5, n5, r5, l5, e5⟩ := I4.lstM upd_same
  cases r5
  refine wpAny_bind (wpAny_updateSeq e5 rfl ?_)
  have I6 := I4.lset (f := (·.push Value.none)) (its' := [Value.none]) (ys := [.non]) (t' := s4.toks) upd_same e5 (by simp) (.cons rfl .nil) (by rw [List.length_singleton, sizeLine_eq]; decide)
  obtain ⟨_, it6, n6, r6, l6, e6⟩ := I6.lstM upd_same
  obtain ⟨u6, rfl, ru6⟩ := r6.one
  refine wpAny_updateSeq e6 rfl ?_ (by show 1 ≤ sizeLine; rw [sizeLine_eq]; decide) (by show 0 ≤ sizeLine + 1; exact Nat.zero_le _)
  have I7 := I6.lset (f := (·.pop)) (its := [u6]) (its' := []) (ys := []) (t' := s4.toks) upd_same e6 (by rfl) .nil (Nat.zero_le _)
  rw [upd_upd, upd_upd] at I7
  refine wpAny_pure ⟨plainId_quiet PySem.F.plain_extend_loop _, run _ I7 (fun c hc => ?_) ?_⟩
  · show c < ((s4.heap.update q _).update q _).objs.size
    rw [(Heap.SameBut.update ..).1, (Heap.SameBut.update ..).1]
    exact (hf4 c hc).2
  · refine (st4.keep nq (fun c o hc e => (Heap.get?_update_other _ _ (Ne.symm hc)).trans e) fun o e => ⟨_, Heap.get?_update_self _ e5 rfl⟩).keep nq (fun c o hc e => (Heap.get?_update_other _ _ (Ne.symm hc)).trans e) fun o e => ⟨_, Heap.get?_update_self _ e6 rfl⟩
end
end UR

set_option linter.all false
set_option maxRecDepth 100000
set_option maxHeartbeats 4000000
/-! Own rules, sixth part: {k: v for t in i for u in j}, a dict comprehension of two clauses without tests. -/
namespace UR
open PySem PySem.Spec PyProof.Rows L2 PySem.W
abbrev two (t0 i0 t1 i1 : Expr) : List Comprehension := [⟨t0, i0, [], 0⟩, ⟨t1, i1, [], 0⟩]
theorem turn_outer (kx vx t0 i0 t1 i1 : Expr) (scope : Scope) (pos : Pos) (it acc : Value) (env : Env) :
    compTurn (.DictComp kx vx (two t0 i0 t1 i1) scope pos) 0 it acc env = (do
      standAt i0.pos
      match ← pyNext it with
      | none => pure (.done .next)
      | some v =>
        letOwnedTupleGo t0 it v
        assign t0 env v
        let y ← eval i1 env
        standAt i1.pos
        let y ← foldedSetIterable i1 env y
        let _ ← runOwn (.compStart (.DictComp kx vx (two t0 i0 t1 i1) scope pos) 1 (← holding [y] (pyIter y)) acc env) env
        again (.compLoop (.DictComp kx vx (two t0 i0 t1 i1) scope pos) 0 it acc env)) := by rfl
theorem turn_inner (kx vx t0 i0 t1 i1 : Expr) (scope : Scope) (pos : Pos) (it : Value) (D : Addr) (env : Env) :
    compTurn (.DictComp kx vx (two t0 i0 t1 i1) scope pos) 1 it (.ref D) env = (do
      standAt i1.pos
      match ← pyNext it with
      | none => pure (.done .next)
      | some v =>
        letOwnedTupleGo t1 it v
        assign t1 env v
        (do
          let kv ← eval kx env
          let vv ← holding [kv] (eval vx env)
          standAt { kx.pos with endLine := vx.pos.endLine, endCol := vx.pos.endCol }
          holding [kv, vv] (dictSet D kv vv))
        again (.compLoop (.DictComp kx vx (two t0 i0 t1 i1) scope pos) 1 it (.ref D) env)) := by rfl
section
variable {prog : Program} {w : World} {A : Around} {R : Result → Shared → Prop} {s : Shared} {kx vx t0 i0 t1 i1 : Expr} {scope : Scope} {pos : Pos} {it : Value} {D : Addr} {env : Env}
abbrev nb (prog : Program) (w : World) (A : Around) (env : Env) (R : Result → Shared → Prop) : Value → Shared → Prop := notedBy (model prog w) A env fun e s' => R (.error e) s'
theorem loop_outer (hs : ∀ x, foldedSetIterable i1 env x = pure x) (P : Nat → Shared → Prop)
    (turn : ∀ n s, P n s → wpAny (model prog w) A (pyNext it) (fun r s1 => match r with
      | none => R (.ok .next) s1
      | some v => wpAny (model prog w) A (letOwnedTupleGo t0 it v) (fun _ s2 => wpAny (model prog w) A (assign t0 env v) (fun _ s3 => wpAny (model prog w) A (eval i1 env) (fun y s4 => wpAny (model prog w) A (pyIter y) (fun it1 s5 =>
          codeAny (model prog w) A (.compStart (.DictComp kx vx (two t0 i0 t1 i1) scope pos) 1 it1 (.ref D) env) (fun r s' => match r with
            | .ok _ => ∃ m, m < n ∧ P m s'
            | .error _ => False) s5) (nb prog w A env R) s4) (nb prog w A env R) s3) (nb prog w A env R) s2) (nb prog w A env R) s1) (nb prog w A env R) s)
    (n : Nat) (h : P n s) : codeAny (model prog w) A (.compLoop (.DictComp kx vx (two t0 i0 t1 i1) scope pos) 0 it (.ref D) env) R s := by
  refine codeAny_loop rfl P (fun n s hP => ?_) n h
  show wpAny _ A ((compTurn (.DictComp kx vx (two t0 i0 t1 i1) scope pos) 0 it (.ref D) env).onRaise (fun x => do noteFrame x env; theTreesLotGoes x)) _ _ s
  refine wpAny_noted ?_
  rw [turn_outer]
  refine wpAny_bind (wpAny_standAt (wpAny_bind (wpAny_mono (turn n s hP) (fun r s1 h1 => ?_) fun _ _ z => z)))
  match r, h1 with
  | none, h1 => exact wpAny_pure h1
  | some v, h1 =>
    refine wpAny_bind (wpAny_mono h1 (fun _ s2 h2 => wpAny_bind (wpAny_mono h2 (fun _ s3 h3 => wpAny_bind (wpAny_mono h3 (fun y s4 h4 => ?_) fun _ _ z => z)) fun _ _ z => z)) fun _ _ z => z)
    refine wpAny_bind (wpAny_standAt (wpAny_bind (wpAny_of_eq (hs y) (wpAny_bind (wpAny_holding (wpAny_mono h4 (fun it1 s5 h5 => ?_) fun _ _ z => z))))))
    refine wpAny_bind (wpAny_runOwn ?_)
    rw [Around.mark_none]
    refine codeAny_mono h5 fun r s' hr => ?_
    match r, hr with
    | .ok f, hr => exact wpAny_pure ⟨rfl, hr⟩
    | .error e, hr => exact hr.elim
theorem loop_inner (P : Nat → Shared → Prop)
    (turn : ∀ n s, P n s → wpAny (model prog w) A (pyNext it) (fun r s1 => match r with
      | none => R (.ok .next) s1
      | some v => wpAny (model prog w) A (letOwnedTupleGo t1 it v) (fun _ s2 => wpAny (model prog w) A (assign t1 env v) (fun _ s3 => wpAny (model prog w) A (eval kx env) (fun kv s4 => wpAny (model prog w) A (eval vx env) (fun vv s5 =>
          wpAny (model prog w) A (dictSet D kv vv) (fun _ s6 => ∃ m, m < n ∧ P m s6) (nb prog w A env R) s5) (nb prog w A env R) s4) (nb prog w A env R) s3) (nb prog w A env R) s2) (nb prog w A env R) s1) (nb prog w A env R) s)
    (n : Nat) (h : P n s) : codeAny (model prog w) A (.compLoop (.DictComp kx vx (two t0 i0 t1 i1) scope pos) 1 it (.ref D) env) R s := by
  refine codeAny_loop rfl P (fun n s hP => ?_) n h
  show wpAny _ A ((compTurn (.DictComp kx vx (two t0 i0 t1 i1) scope pos) 1 it (.ref D) env).onRaise (fun x => do noteFrame x env; theTreesLotGoes x)) _ _ s
  refine wpAny_noted ?_
  rw [turn_inner]
  refine wpAny_bind (wpAny_standAt (wpAny_bind (wpAny_mono (turn n s hP) (fun r s1 h1 => ?_) fun _ _ z => z)))
  match r, h1 with
  | none, h1 => exact wpAny_pure h1
  | some v, h1 =>
    refine wpAny_bind (wpAny_mono h1 (fun _ s2 h2 => wpAny_bind (wpAny_mono h2 (fun _ s3 h3 => wpAny_bind ?_) fun _ _ z => z)) fun _ _ z => z)
    refine wpAny_bind (wpAny_mono h3 (fun kv s4 h4 => wpAny_bind (wpAny_holding (wpAny_mono h4 (fun vv s5 h5 => ?_) fun _ _ z => z))) fun _ _ z => z)
    refine wpAny_bind (wpAny_standAt (wpAny_holding (wpAny_mono h5 (fun _ s6 h6 => ?_) fun _ _ z => z)))
    exact wpAny_pure ⟨rfl, h6⟩
theorem start_inner (h0 : codeAny (model prog w) A (.compLoop (.DictComp kx vx (two t0 i0 t1 i1) scope pos) 1 it (.ref D) env) R s)
    (h : wpAny (model prog w) A (pyIter it) (fun it' s' => codeAny (model prog w) A (.compLoop (.DictComp kx vx (two t0 i0 t1 i1) scope pos) 1 it' (.ref D) env) R s') (nb prog w A env R) s) :
    codeAny (model prog w) A (.compStart (.DictComp kx vx (two t0 i0 t1 i1) scope pos) 1 it (.ref D) env) R s := by
  refine codeAny_of_tree ?_
  show wpAny _ _ ((compStart (.DictComp kx vx (two t0 i0 t1 i1) scope pos) 1 it (.ref D) env).onRaise (fun x => do noteFrame x env; standAt theWindowsPlace)) _ _ s
  refine wpAny_notedAt ?_
  unfold compStart
  show wpAny _ _ (ask >>= _) _ _ s
  refine wpAny_bind (wpAny_askSetting (wpAny_ite ?_))
  split
  · first
      | exact wpAny_pure ⟨rfl, h0⟩
      | exact wpAny_bind (wpAny_pure (wpAny_pure ⟨rfl, h0⟩))
  · refine wpAny_bind (wpAny_rule ?_)
    first
      | exact wpAny_bind (wpAny_standAt (wpAny_bind (wpAny_mono h (fun it' s' z => wpAny_pure ⟨rfl, z⟩) fun _ _ z => z)))
      | (show wpAny _ _ (standAt i1.pos >>= _) _ _ s
         exact wpAny_bind (wpAny_standAt (wpAny_bind (wpAny_mono h (fun it' s' z => wpAny_pure ⟨rfl, z⟩) fun _ _ z => z))))
end
end UR

set_option linter.all false
set_option maxRecDepth 100000
set_option maxHeartbeats 4000000
/-! Own rules, seventh part: the two-clause dict comprehension as a rule of the layer. -/
namespace UR
open PySem PySem.Spec PyProof.Rows L2 PySem.W
section
variable {X : Cx}
/-- {k: v for t in i for u in j}: D the new dict; W, W1 what holds ahead of each turn of the outer, the inner walk -/
def tDc2 (wi : TI) (g : TG) (wi1 : TI) (g1 : TG) (tk tv : TE) (vs vs1 : List Nat) : TE := fun σ H Q => wi σ H fun J H1 => ∀ D, H1 D = none → ∃ W : Nat → Nat → Hp → Prop, (∃ m, W 0 m (upd H1 D (.dK []))) ∧ ∀ i m H, W i m H →
  (J.stop i H ∧ Q (.ref D) H) ∨ (J.go i H ∧ ∃ Nx : Hp → Prop, (∀ H', Nx H' → ∃ m', m' < m ∧ W (i + 1) m' H') ∧ ∀ x H', J.yld i H x H' → g x (wipe σ vs) H' fun σ2 H2 => wipe σ2 vs = wipe σ vs ∧
    wi1 σ2 H2 fun J1 H4 => ∃ W1 : Nat → Nat → Hp → Prop, (∃ m, W1 0 m H4) ∧ ∀ j k H, W1 j k H →
      (J1.stop j H ∧ Nx H) ∨ (J1.go j H ∧ ∃ Nx1 : Hp → Prop, (∀ H', Nx1 H' → ∃ k', k' < k ∧ W1 (j + 1) k' H') ∧ ∀ x H', J1.yld j H x H' → g1 x (wipe σ2 vs1) H' fun σ3 H5 => wipe σ3 vs1 = wipe σ2 vs1 ∧
        tk σ3 H5 fun y H6 => tv σ3 H6 fun z H7 => ∃ kvs key, y = kV key ∧ H7 D = some (.dK kvs) ∧ kvs.length < sizeLine ∧ Nx1 (upd H7 D (.dK (putK kvs key z)))))
theorem pe_dc2 {kx vx t0 i0 t1 i1 : Expr} {scope : Scope} {own : List (Str × Nat)} {vs1 : List Nat} {pos : Pos} {wi wi1 : TI} {g g1 : TG} {tk tv : TE} (hc : X.calm = true) (hN : X.N.Nodup) (hi : PI X t0 i0 wi) (ok : BlkOk X.N X.env.scope scope own) (hv : ∀ i ∈ vs1, i ∈ own.map (·.2))
    (hg : ∀ (s : Shared) (H : Hp) (C : Addr) (cl : List (Str × Addr)) (fp : List Addr), PG (X.blk s H scope (compEnvC scope cl C X.env) fp) t0 g)
    (hi1 : ∀ (s : Shared) (H : Hp) (C : Addr) (cl : List (Str × Addr)) (fp : List Addr), PI (X.blk s H scope (compEnvC scope cl C X.env) fp) t1 i1 wi1)
    (hg1 : ∀ (s : Shared) (H : Hp) (C : Addr) (cl : List (Str × Addr)) (fp : List Addr), PG (X.blk s H scope (compEnvC scope cl C X.env) fp) t1 g1)
    (hk : ∀ (s : Shared) (H : Hp) (C : Addr) (cl : List (Str × Addr)) (fp : List Addr), PE (X.blk s H scope (compEnvC scope cl C X.env) fp) kx tk)
    (hx : ∀ (s : Shared) (H : Hp) (C : Addr) (cl : List (Str × Addr)) (fp : List Addr), PE (X.blk s H scope (compEnvC scope cl C X.env) fp) vx tv)
    (hs : ∀ x, foldedSetIterable i0 X.env x = pure x := by intro _; rfl) (hs1 : ∀ env x, foldedSetIterable i1 env x = pure x := by intro _ _; rfl) :
    PE X (.DictComp kx vx (two t0 i0 t1 i1) scope pos) (tDc2 wi g wi1 g1 tk tv (own.map (·.2)) vs1) := by
  refine ⟨fun pins s σ H Q I h => ?_⟩
  rw [arm_eval_DictComp]
  have free : ∀ y ∈ scope.names, y.2 = .free → ∃ c, X.env.cells.lookup y.1 = some c := fun y hy e => (ok.free y hy e).elim (fun k => I.ok.has _ (.inl k)) fun k => I.ok.has _ (.inr k)
  refine wpAny_comprehension_free rfl hs (closure_ok free) ok.kind (fun y hy e => by rw [ok.uniq y hy, e]) (thn (hi.run pins s σ H _ I h) fun xv sA hA => thn hA fun itv sB hB => ?_)
  obtain ⟨it, fp, tn, J, HB, rfl, IB, T, stB, fB, q⟩ := hB
  refine wpAny_newObj_type (newEnv_comp ?_)
  generalize hD : sB.heap.objs.size = D
  obtain ⟨W, ⟨m0, w0⟩, turn⟩ := q D (IB.hok.fresh (Nat.le_of_eq hD))
  -- the new dict
  generalize hsC : ({ sB with heap := sB.heap.push { cls := .type "dict", data := .dict #[] } } : Shared) = sC
  have eC : sC.heap = sB.heap.push { cls := .type "dict", data := .dict #[] } := by rw [← hsC]
  have IC : Inv X pins σ (upd HB D (.dK [])) sC := by
    rw [← hsC, ← hD]
    exact IB.laid (t' := sB.toks) (fun b o e => Heap.get?_push_of_some _ e) (Nat.le_refl _) (dk_empty sB.heap IB.big)
  have fC : ∀ b ∈ fp, FpOk X pins (upd HB D (.dK [])) b ∧ b < sC.heap.objs.size := fun b hb => by
    obtain ⟨o, e, _⟩ := T.obj _ _ stB b hb
    have lt := Heap.lt_size e
    exact ⟨⟨by rw [upd_ne (by rw [← hD]; exact Nat.ne_of_lt lt)]; exact (fB b hb).1, (fB b hb).2⟩, by rw [eC, Heap.size_push]; exact Nat.lt_succ_of_lt lt⟩
  have stC : tn 0 sC.heap := T.keep _ _ _ stB fun b _ o e => by rw [eC]; exact Heap.get?_push_of_some _ e
  have ID := block_start IC ok hN fC
  have pg := hg sC (upd HB D (.dK [])) sC.heap.objs.size (cellsFrom (sC.heap.objs.size + 1) scope.names (cloFrom X.env.cells scope.names [])) fp
  have pi := hi1 sC (upd HB D (.dK [])) sC.heap.objs.size (cellsFrom (sC.heap.objs.size + 1) scope.names (cloFrom X.env.cells scope.names [])) fp
  have pg1 := hg1 sC (upd HB D (.dK [])) sC.heap.objs.size (cellsFrom (sC.heap.objs.size + 1) scope.names (cloFrom X.env.cells scope.names [])) fp
  have pk := hk sC (upd HB D (.dK [])) sC.heap.objs.size (cellsFrom (sC.heap.objs.size + 1) scope.names (cloFrom X.env.cells scope.names [])) fp
  have pv := hx sC (upd HB D (.dK [])) sC.heap.objs.size (cellsFrom (sC.heap.objs.size + 1) scope.names (cloFrom X.env.cells scope.names [])) fp
  show codeAny _ _ (.compStart (.DictComp kx vx (two t0 i0 t1 i1) scope pos) 0 (.ref it) (.ref D) (compEnvC scope (cellsFrom (sC.heap.objs.size + 1) scope.names (cloFrom X.env.cells scope.names [])) sC.heap.objs.size X.env)) _ { sC with heap := pushCells (sC.heap.push { cls := .type "dict", data := .dict #[] }) scope.names }
  have nfp : ∀ b ∈ fp, (upd HB D (.dK [])) b = none := fun b hb => (fC b hb).1.1
  generalize hce : compEnvC scope (cellsFrom (sC.heap.objs.size + 1) scope.names (cloFrom X.env.cells scope.names [])) sC.heap.objs.size X.env = ce at ID pg pi pg1 pk pv ⊢
  have cL : ce.locals = sC.heap.objs.size := by rw [← hce]; rfl
  generalize hHC : upd HB D (.dK []) = HC at IC ID pg pi pg1 pk pv w0 nfp fC
  generalize hsD : ({ sC with heap := pushCells (sC.heap.push { cls := .type "dict", data := .dict #[] }) scope.names } : Shared) = sD at ID ⊢
  have stD : tn 0 sD.heap := T.keep _ _ _ stC fun b _ o e => by rw [← hsD]; exact pushCells_keeps _ _ _ _ (Heap.get?_push_of_some _ e)
  have ownFp : ∀ {σ' : L2.St} {H' : Hp} {s' : Shared}, Inv (X.blk sC HC scope ce fp) [] σ' H' s' → (∀ b ∈ fp, H' b = none) → ∀ b ∈ fp, FpOk (X.blk sC HC scope ce fp) [] H' b := fun {σ' H' s'} I' hn b hb => by
    have k1 := I'.ok.exf b hb
    exact ⟨hn b hb, k1.1, I'.ok.exfs b hb, .inl hb, fun x c e => k1.2 x c e, fun p hp => nomatch (show p ∈ ([] : List (Addr × Obj)) from hp)⟩
  refine codeAny_compStart_dict (rest := [⟨t1, i1, [], 0⟩]) ?loop (T.self X.A 0 _ _ _ stD ?loop)
  refine loop_outer (hs1 ce) (fun n s' => ∃ i H', Inv (X.blk sC HC scope ce fp) [] (wipe σ (own.map (·.2))) H' s' ∧ tn i s'.heap ∧ (∀ b ∈ fp, H' b = none) ∧ W i n H') ?_ m0 ⟨0, HC, ID, stD, nfp, w0⟩
  rintro n sE ⟨i, HE, IE, stE, nE, wE⟩
  rcases turn i n HE wE with ⟨stop, qq⟩ | ⟨go, Nx, hNx, step⟩
  · refine thnF (T.done (X.blk sC HC scope ce fp) rfl rfl rfl hc i [] sE _ HE (fun _ _ => False) IE (ownFp IE nE) stE stop) fun r sF ⟨hr, IF⟩ => ?_
    subst hr
    have IG : Inv X pins σ HE sF := IC.call' (ch := fp) IF.os IF.base IF.hok IF.bare fun b hb => by
      have f := (fC b hb).1.2
      exact ⟨f.2.2.1, f.1, f.2.2.2.1, f.2.2.2.2⟩
    have nC : HE sC.heap.objs.size = none := by rw [← cL]; exact IF.free
    obtain ⟨mF, nsF, _⟩ := IF.loc
    have nsF' : sF.heap.Ns sC.heap.objs.size mF := by rw [← cL]; exact nsF
    refine ⟨mF, nsF', fun h'' sb => ?_⟩
    obtain ⟨f0, f1, f2, f3, f4, f5⟩ := IC.fpOk (Nat.le_refl _) nC
    exact ⟨.ref D, HE, IG.turned (t' := sF.toks) (fun b o hb e => (sb.2 b hb).trans e) f0 f1 f3 f4 f5, rfl, qq⟩
  · refine thnF (T.item (X.blk sC HC scope ce fp) rfl rfl rfl hc i [] sE _ HE (fun _ _ => False) IE (ownFp IE nE) stE go) fun r sF ⟨u, hr, hF⟩ => ?_
    subst hr
    refine thnF hF fun _ sG ⟨x, HG, IG, rG, yG, stG, nG⟩ => ?_
    have IG' := IG.pinned (ownFp IG nG) (T.obj _ _ stG)
    refine thnF (pg.run _ sG _ HG x u _ IG' rG (step x HG yG)) fun _ sH ⟨σH, HH, IH, wH, qH⟩ => ?_
    -- the outer turn's end
    have fin : ∀ {σ9 : L2.St} {s' : Shared} {H' : Hp}, Inv (X.blk sC HC scope ce fp) ([] ++ pinsAt fp sG.heap) σ9 H' s' → (wipe σ (own.map (·.2))).length = σ9.length → (∀ (j : Nat) v, (wipe σ (own.map (·.2)))[j]? = some (some v) → σ9[j]? = some (some v)) → Nx H' →
        ∃ m, m < n ∧ ∃ i H', Inv (X.blk sC HC scope ce fp) [] (wipe σ (own.map (·.2))) H' s' ∧ tn i s'.heap ∧ (∀ b ∈ fp, H' b = none) ∧ W i m H' := fun {σ9 s' H'} I' hl hw nx => by
      obtain ⟨m', hm, w'⟩ := hNx H' nx
      have pin : ∀ b ∈ fp, ∀ o, sG.heap.get? b = some o → s'.heap.get? b = some o ∧ H' b = none := fun b hb o e => by
        have z := I'.pin (b, o) (List.mem_append_right _ (List.mem_append_right _ (mem_pinsAt hb e)))
        exact ⟨z.1, z.2.1⟩
      refine ⟨m', hm, i + 1, H', (I'.unpinned (pins := [])).weak hl hw, T.keep _ _ _ stG fun b hb o e => (pin b hb o e).1, fun b hb => ?_, w'⟩
      obtain ⟨o, e, _⟩ := T.obj _ _ stG b hb
      exact (pin b hb o e).2
    have lenH : (wipe σ (own.map (·.2))).length = σH.length := by rw [← wH, wipe_length]
    have knowH : ∀ (j : Nat) v, (wipe σ (own.map (·.2)))[j]? = some (some v) → (wipe σH vs1)[j]? = some (some v) := fun j v e => by
      rw [← wH] at e
      obtain ⟨e1, e2⟩ := wipe_some e
      rw [wipe_out fun z => e2 (hv j z)]
      exact e1
    refine thnF (pi.run _ sH σH HH _ IH qH) fun yv sI hI => thnF hI fun itv sJ hJ => ?_
    obtain ⟨it1, fp1, tn1, J1, HJ, rfl, IJ, T1, stJ, fJ, W1, ⟨m1, w1⟩, turn1⟩ := hJ
    have ownFp1 : ∀ {H' : Hp}, (∀ b ∈ fp1, H' b = none) → ∀ b ∈ fp1, FpOk (X.blk sC HC scope ce fp) ([] ++ pinsAt fp sG.heap) H' b := fun hn b hb => ⟨hn b hb, (fJ b hb).2⟩
    refine start_inner ?inner (T1.self X.A 0 _ _ _ stJ ?inner)
    refine loop_inner (fun k s' => ∃ j H', Inv (X.blk sC HC scope ce fp) ([] ++ pinsAt fp sG.heap) (wipe σH vs1) H' s' ∧ tn1 j s'.heap ∧ (∀ b ∈ fp1, H' b = none) ∧ W1 j k H') ?_ m1
      ⟨0, HJ, IJ.weak (wipe_length _ _) (fun j v e => (wipe_some e).1), stJ, fun b hb => (fJ b hb).1, w1⟩
    rintro k sK ⟨j, HK, IK, stK, nK, wK⟩
    rcases turn1 j k HK wK with ⟨stop1, nx1⟩ | ⟨go1, Nx1, hNx1, step1⟩
    · refine thnF (T1.done (X.blk sC HC scope ce fp) rfl rfl rfl hc j _ sK (wipe σH vs1) HK (fun _ _ => False) IK (ownFp1 nK) stK stop1) fun r sL ⟨hr, IL⟩ => ?_
      subst hr
      exact fin IL (lenH.trans (wipe_length σH vs1).symm) knowH nx1
    · refine thnF (T1.item (X.blk sC HC scope ce fp) rfl rfl rfl hc j _ sK (wipe σH vs1) HK (fun _ _ => False) IK (ownFp1 nK) stK go1) fun r sL ⟨u1, hr, hL⟩ => ?_
      subst hr
      refine thnF hL fun _ sM ⟨x1, HM, IM, rM, yM, stM, nM⟩ => ?_
      have IM' := IM.pinned (ownFp1 nM) (T1.obj _ _ stM)
      refine thnF (pg1.run _ sM (wipe σH vs1) HM x1 u1 _ IM' rM (step1 x1 HM yM)) fun _ sN ⟨σN, HN, IN, wN, qN⟩ => ?_
      refine thnF (pk.run _ sN σN HN _ IN qN) fun kv sO ⟨yk, HO', IO, rO, qO⟩ => ?_
      refine thnF (pv.run _ sO σN HO' _ IO qO) fun vv sP ⟨yz, HP, IP, rP, kvs, key, ek, hDP, hzP, nx⟩ => ?_
      subst ek
      refine d_dictSet (X := X.blk sC HC scope ce fp) IP hDP hzP rO rP fun sQ IQ => ?_
      obtain ⟨m', hm, w'⟩ := hNx1 _ nx
      have pin1 : ∀ b ∈ fp1, ∀ o, sM.heap.get? b = some o → sQ.heap.get? b = some o ∧ upd HP D (.dK (putK kvs key yz)) b = none := fun b hb o e => by
        have z := IQ.pin (b, o) (List.mem_append_right _ (List.mem_append_right _ (mem_pinsAt hb e)))
        exact ⟨z.1, z.2.1⟩
      refine ⟨m', hm, j + 1, _, IQ.unpinned.weak (by rw [← wN, wipe_length]) (fun j v e => by rw [← wN] at e; exact (wipe_some e).1), T1.keep _ _ _ stM fun b hb o e => (pin1 b hb o e).1, fun b hb => ?_, w'⟩
      obtain ⟨o, e, _⟩ := T1.obj _ _ stM b hb
      exact (pin1 b hb o e).2
end
end UR

set_option linter.all false
set_option maxRecDepth 100000
set_option maxHeartbeats 4000000
/-! Own rules, eighth part: sorted of texts, of pairs of texts, any length. -/
namespace UR
open PySem PySem.Spec PyProof.Rows L2 PySem.W
/-- texts by code points -/
def sle (a b : Str) : Bool := decide (a.cps.toList ≤ b.cps.toList)
def ple (p q : Str × Str) : Bool := if p.1 = q.1 then sle p.2 q.2 else sle p.1 q.1
theorem each_of {β : Type} {R : Value → β → Prop} {f : β → V} (hR : ∀ u b, RelV (f b) u → R u b) : ∀ {bs : List β} {us : List Value}, Vals (bs.map f) us → EachIs R us bs
  | [], _, r => by cases r; exact .nil
  | b :: bs, _, r => by
    cases r with
    | cons r1 r2 => exact .cons (hR _ _ r1) (each_of hR r2)
theorem vals_each {β : Type} {f : β → V} : ∀ {bs : List β} {us : List Value}, EachIs (fun u b => RelV (f b) u) us bs → Vals (bs.map f) us
  | [], _, .nil => .nil
  | b :: bs, _, .cons r1 r2 => .cons r1 (vals_each r2)
section
variable {X : Cx}
/-- sorted(xs), xs what f makes of the bs, read by enc -/
def rSortG {β : Type} (K : PySem.W.Frag) (f : β → V) (enc : β → PyData) (le : β → β → Bool) (OK : Hp → β → Prop) : List V → Hp → VK → Prop := fun vs H Q => ∃ (a : Addr) (bs : List β), vs = [.ref a] ∧ SqL K H a (bs.map f) ∧ (∀ b ∈ bs, OK H b) ∧
  ∀ p, H p = none → Q (.ref p) (upd H p (.lst ((bs.mergeSort le).map f)))
theorem cr_sortedG {β : Type} {f : β → V} {enc : β → PyData} {le : β → β → Bool} {OK : Hp → β → Prop} (hle : dataLe false enc = le) (hd : ∀ b, (enc b).depth ≤ 2) (ha : ∀ b b', alike (enc b) (enc b') = true) (hk : ∀ bs : List β, Sortable (bs.map enc))
    (hDp : ∀ H b, OK H b → Dp X.K H (f b) (enc b)) (hu : X.A.units + 64 < cLine) : CallR X (.builtin "sorted") (rSortG X.K f enc le OK) := by
  intro pins s σ H vs us Q I r h
  obtain ⟨a, bs, rfl, hs, hok, q⟩ := h
  obtain ⟨its, rv, hl, hz⟩ := I.list hs
  rw [Vals.ref1 r]
  rw [List.length_map] at hz
  have er : ∀ {cs : List β} {ws : List Value}, (∀ b ∈ cs, OK H b) → Vals (cs.map f) ws → EachIs (fun v b => ∃ as, Reads s.heap v (enc b) as) ws cs := by
    intro cs
    induction cs with
    | nil => intro ws _ r; cases r; exact .nil
    | cons c cs ih =>
      intro ws hc r
      cases r with
      | cons r1 r2 => exact .cons (Dp.reads I _ _ _ (hDp H c (hc c List.mem_cons_self)) r1) (ih (fun b hb => hc b (List.mem_cons_of_mem _ hb)) r2)
  refine sorted_data (R := fun u b => RelV (f b) u) hl.isList (each_of (fun _ _ z => z) rv) (er hok rv) (AllAlike.of ha) (hk bs) hz (fun b _ => by have := hd b; omega) fun out hlen ho => ?_
  rw [hle] at ho
  obtain ⟨ep, he⟩ := PyProof.Rows.sortedAll_at s.heap its out.toArray
  have lm : ((bs.mergeSort le).map f).length ≤ sizeLine := by rw [List.length_map, List.length_mergeSort]; exact hz
  exact ⟨.ref _, upd H (s.heap.objs.size + 1) (.lst ((bs.mergeSort le).map f)), I.laid (t' := s.toks) (fun _ _ => PyProof.Rows.sortedAll_old) (Nat.le_succ _) ⟨lm, out, ep, vals_each ho, he⟩, rfl, q _ (I.hok.fresh (Nat.le_succ _))⟩
end

theorem sle_refl (a : Str) : sle a a = true := decide_eq_true (List.le_refl _)
theorem sle_lt (a b : Str) : (!dataLt (.str b) (.str a)) = sle a b := by rw [dataLt_str, not_lt_str]; rfl
theorem dataLe_line {β : Type} (f : β → Str × Str) : dataLe false (fun b => .tuple [.str (f b).1, .str (f b).2]) = fun a b => ple (f a) (f b) := by
  funext a b
  show (!dataLt (.tuple [.str (f b).1, .str (f b).2]) (.tuple [.str (f a).1, .str (f a).2])) = ple (f a) (f b)
  rw [dataLt_pair (by simp [alike]) (by simp [alike])]
  simp only [PyData.eqv, beq_iff_eq]
  unfold ple
  by_cases h1 : (f b).1 = (f a).1
  · rw [if_pos h1, if_pos h1.symm]
    by_cases h2 : (f b).2 = (f a).2
    · rw [if_pos h2, h2, sle_refl]; rfl
    · rw [if_neg h2, sle_lt]
  · rw [if_neg h1, if_neg (Ne.symm h1), sle_lt]
section
variable {X : Cx}
/-- sorted(names) -/
abbrev rSortN (K : PySem.W.Frag) := rSortG (β := Str) K V.str PyData.str sle fun _ _ => True
theorem cr_sortedN (hu : X.A.units + 64 < cLine) : CallR X (.builtin "sorted") (rSortN X.K) :=
  cr_sortedG (dataLe_str id) (fun b => by simp [PyData.depth]) (fun b b' => by simp [alike]) (fun bs => .others fun b => ⟨by simp, by simp⟩) (fun H b _ => .str b) hu
/-- sorted(lines): the tuples that stand, in order -/
abbrev rSortL (K : PySem.W.Frag) := rSortG (β := Addr × Str × Str) K (fun p => V.ref p.1) (fun p => .tuple [.str p.2.1, .str p.2.2]) (fun p q => ple p.2 q.2) fun H p => SqT K H p.1 [.str p.2.1, .str p.2.2]
theorem cr_sortedL (hu : X.A.units + 64 < cLine) : CallR X (.builtin "sorted") (rSortL X.K) :=
  cr_sortedG (dataLe_line fun p : Addr × Str × Str => p.2) (fun b => by simp [PyData.depth, PyData.depthAll]) (fun b b' => by simp [alike, alikeAll]) (fun bs => .tuples fun b => ⟨_, _, rfl⟩)
    (fun H b h => .tup h (.cons (.str _) (.cons (.str _) .nil))) hu
end
end UR

set_option linter.all false
set_option maxRecDepth 100000
set_option maxHeartbeats 2000000
/-! Guards, first part: a def whose promise may lean on the guards that stand (repr of lists asks for them); its call; the law's end. -/
namespace UR
open PySem PySem.Spec PyProof.Rows L2

/-- a promise by the guards that stand -/
abbrev SpG := List Code → Sp
structure FnG (P : Program) (w : World) (K : PySem.W.Frag) (mg : Str → Option Value) (base : Heap) (k : Nat) (f : Addr) (sp : SpG) : Prop where
  ex : ∃ (fd : FuncData) (ps : List Str), (∀ g vs H Q E, sp g vs H Q E → vs.length = ps.length) ∧ Binds K fd ps [] ∧
    ∀ (A : Around) (g : List Code) (outer : List Env) (s : Shared) (H : Hp) (args : Args) (us : List Value) (vs : List V) (Q : VK) (E : XK), A.guards = some g → Room k A → Env0 P w K mg base A outer s H →
      BindsTo s fd args (ps.zip us) → Vals vs us → sp g vs H Q E → codeAny (model P w) A (.call (.ref f) args) (CR CX0 outer P w H s Q E) s
theorem FnG.mono {P : Program} {w : World} {K : PySem.W.Frag} {mg : Str → Option Value} {base : Heap} {j k : Nat} {f : Addr} {sp : SpG} (F : FnG P w K mg base j f sp) (h : j ≤ k) : FnG P w K mg base k f sp := by
  obtain ⟨fd, ps, l, b, r⟩ := F.ex
  exact ⟨fd, ps, l, b, fun A g outer s H args us vs Q E hg hr => r A g outer s H args us vs Q E hg (hr.mono h)⟩
/-- a def that asks for no guards -/
theorem FnG.of {P : Program} {w : World} {K : PySem.W.Frag} {mg : Str → Option Value} {base : Heap} {k : Nat} {f : Addr} {sp : Sp} (F : Fn P w K mg base k f sp []) : FnG P w K mg base k f fun _ => sp := by
  obtain ⟨fd, ps, ds, F, b, d⟩ := F.ex
  cases d
  exact ⟨fd, ps, fun _ => F.len, b, fun A g outer s H args us vs Q E _ => F.run A outer s H args us vs Q E⟩
/-- by its body -/
theorem fnG {P : Program} {w : World} {K : PySem.W.Frag} {mg : Str → Option Value} {base : Heap} {x qual : Str} {params : Arguments} {body : List Stmt} {scope : Scope} {kws : List (Str × V)} {f : Addr} {fd : FuncData} {N ps : List Str} {k : Nat} {sp : SpG}
    (F : FunD K x qual params body scope [] kws f fd) (b : Binds K fd ps []) (S : FnScope N ps scope) (len : ∀ g vs H Q E, sp g vs H Q E → vs.length = ps.length)
    (hbody : ∀ (cdv : Value) (A : Around) (g : List Code) (outer : List Env) (s : Shared) (H : Hp) (vs : List V) (Q : VK) (E : XK), A.guards = some g → Room k (A.deeper (envOfC qual scope s.heap.objs.size f cdv)) → sp g vs H Q E →
      ∃ t, PSs (cxOf CX0 P w K mg base N qual scope f cdv A outer s H E).nox body t ∧ t { nx := fun _ H' => Q .non H', rt := Q } (start N vs) H) : FnG P w K mg base (k + 1) f sp := by
  obtain ⟨oc, od, dV, kV, doc, pm, an, cdv, ct, osl, rfl, lk, hcd, _, _⟩ := F.ex
  refine ⟨_, ps, len, b, fun A g outer s H args us vs Q E hg hr e0 hb r hsp => ?_⟩
  have hl := len _ _ _ _ _ hsp
  have KX : K.In s.heap := e0.mod.kin.keeps fun b o e => (e0.bs b o e).1
  have lim : s.heap.NoLimit := e0.mod.nolimit.keeps fun b o e => (e0.bs b o e).1
  have kinds : ∀ y ∈ ps.zip us, scope.names.lookup y.1 = some .local ∨ (scope.names.lookup y.1 = some .cell ∧ ((cellsFrom (s.heap.objs.size + 1) scope.names []).lookup y.1).isSome = true) := fun y hy =>
    (S.par y.1 (List.of_mem_zip (a := y.1) (b := y.2) hy).1).imp id fun q => ⟨q, PySem.W.cellsFrom_some _ _ _ (.inl q)⟩
  obtain ⟨t, ht, hq⟩ := hbody cdv A g outer s H vs Q E hg (hr.deeper _) hsp
  refine codeAny_call_function hr.depth (KX _ _ lk) rfl S.co S.gen rfl (PySem.W.codeRec_of KX hcd) (hb _ _ _ _ (wpAny_newFunctionEnv_cells S.kind kinds fun env he s1 x => ?_))
  subst he
  refine ⟨lim.keeps x.toInCall.keep, codeAny_func (wpAny_mono (ht.nox.run [] s1 (start N vs) H _ (inv_start S hr.hd e0 hl r x) hq) (fun fl s' hs => ?_) fun e s' hs => hs)⟩
  cases fl with
  | ret u => obtain ⟨v, σ', H', J, rv, q⟩ := hs; exact ⟨v, H', J.os, J.bare, J.base, J.hok, rv, q⟩
  | next => obtain ⟨σ', H', J, q⟩ := hs; exact ⟨.non, H', J.os, J.bare, J.base, J.hok, rfl, q⟩
  | brk => obtain ⟨_, _, _, q⟩ := hs; exact q.elim
  | cont => obtain ⟨_, _, _, q⟩ := hs; exact q.elim
section
variable {X : Cx} {k j n : Nat} {f : Addr} {sp : SpG} {g : List Code} {pins : List (Addr × Obj)} {σ : L2.St} {H : Hp} {s : Shared}
/-- such a def runs somewhere below a body -/
theorem FnG.at_ {A1 : Around} {E : Value → Shared → Prop} {us : List Value} {vs : List V} {Q : VK} (F : FnG X.prog X.w X.K X.mg X.base n f sp) (hg : A1.guards = some g) (sb : Sub X n A1) (I : Inv X pins σ H s) (r : Vals vs us) (h : sp g vs H Q E0) :
    wpAny (model X.prog X.w) A1 (call (.ref f) us) (EP X pins σ Q) E s := by
  obtain ⟨fd, ps, l, b, F⟩ := F.ex
  have b0 := I.env0
  have e0 : Env0 X.prog X.w X.K X.mg X.base A1 X.stack s H := { frames := sb.fr.trans b0.frames, mod := b0.mod, bs := b0.bs, bsz := b0.bsz, funs := b0.funs, frf := b0.frf, hok := b0.hok, bare := b0.bare }
  have hl : (us ++ []).length = ps.length := by
    rw [List.append_nil, ← r.length]
    exact l _ _ _ _ _ h
  have hb := b s us I.kIn hl
  rw [List.append_nil] at hb
  refine wpAny_call (codeAny_mono (F A1 g X.stack s H _ us vs Q E0 hg sb.room e0 hb r h) fun z s' hq => ?_)
  match z, hq with
  | .ok (.ret u), hq => exact I.after hq
variable {x : Str} {p pos : Pos} {e : Expr} {es : List Expr} {t : TA}
theorem pe_fG (c : FnG X.prog X.w X.K X.mg X.base k f sp) (hG : X.A.guards = some g) (hr : Room j X.A) (hk : k ≤ j) (hg : Gl X x) (hm : X.mg x = some (.ref f)) (kp : PySem.W.keepIn X.K (.ref f) = true) (ha : PA X (e :: es) t)
    (hdb : (x == ("__debug__" : Str)) = false := by decide) (he : starEach (e :: es) X.env = (false, eval e X.env) :: starEach es X.env := by rfl) (hpl : (backTo pos (starEach es X.env)).any (·.1) = false := by rfl) :
    PE X (.Call (.Name x p) (e :: es) [] pos) (fun σ H Q => t σ H fun vs H1 => sp g vs H1 Q E0) := by
  refine ⟨fun pins s σ H Q I h => wpAny_Call_Name_kw (ld_glob I hg hm ?_ hdb)⟩
  refine PySem.W.callWith_K (h₀ := X.base) I.ok.mod.kin kp (thn (ha.run pos pins s σ H _ I h) fun us s1 hs => ?_) he hpl
  obtain ⟨vs, H1, I1, r, q⟩ := hs
  exact ⟨I1.kIn, c.at_ (E := X.xe) hG ⟨hr.mono hk, rfl⟩ I1 r q⟩
end

/-- the law's def, called at the top, where no guard stands -/
theorem law_callG {P : Program} {w : World} {K : PySem.W.Frag} {mg mb : Str → Option Value} {k : Nat} {fa a : Addr} {sp : SpG} {s₁ : Shared} {vs : List Value} {ns : List Int}
    (KX : K.In s₁.heap) (hns : s₁.heap.Ns mainGlobals mg) (hb : s₁.heap.Ns builtinsNs mb) (hbb : ∀ x : Str, x ≠ "__name__" → mb x = bootBuiltins x) (hlim : s₁.heap.NoLimit) (hg : s₁.gens = #[])
    (ha : s₁.heap.get? a = some { cls := .type "list", data := .seq vs.toArray }) (hi : IntsAre vs ns) (hl : ns.length ≤ sizeLine) (hr : Room k callerA)
    (F : ∀ base : Heap, K.In base → base.Ns mainGlobals mg → FnG P w K mg base k fa sp)
    (hsp : ∀ H : Hp, Only H → SqL K H a (ns.map V.int) → sp [] [.ref a] H (fun v _ => v = .bl true) fun _ _ _ => False) :
    codeAny (model P w) callerA (.call (.ref fa) ⟨[.ref a], []⟩) (fun r s' => r = .ok (.ret (.bool true)) ∧ PySem.OldK s₁.heap s'.heap ∧ s'.os = s₁.os ∧ AllBare s'.gens) s₁ := by
  have go : ∀ H : Hp, Only H → SqL K H a (ns.map V.int) → HOk P w H s₁.heap → (∀ b, H b ≠ none → b = a) → (H a ≠ none → K.lookup a = none) →
      codeAny (model P w) callerA (.call (.ref fa) ⟨[.ref a], []⟩) (fun r s' => r = .ok (.ret (.bool true)) ∧ PySem.OldK s₁.heap s'.heap ∧ s'.os = s₁.os ∧ AllBare s'.gens) s₁ := by
    intro H hO hS hok hA hK
    have isA : ∀ {b : Addr} {u : HO}, H b = some u → b = a := fun q => hA _ (by rw [q]; simp)
    have nodict : ∀ {b : Addr} {o : Obj} {es : Array DictEntry} {ep : Nat}, s₁.heap.get? b = some o → o.data = .dict es ep → H b = none := by
      intro b o es ep e d
      rcases hq : H b with _ | u
      · rfl
      · rw [isA hq, ha] at e
        cases e
        exact nomatch (show Data.seq vs.toArray _ = Data.dict es ep from d)
    have notK : ∀ {b : Addr} {o : Obj}, K.lookup b = some o → H b = none := by
      intro b o e
      rcases hq : H b with _ | u
      · rfl
      · have eb := isA hq
        rw [eb] at e hq
        rw [hK (by rw [hq]; simp)] at e
        cases e
    have ns' : ∀ {b : Addr} {m : Str → Option Value}, s₁.heap.Ns b m → (hidT s₁.heap H).Ns b m := fun {b m} ⟨o, es, ep, e, d, r⟩ => ⟨o, es, ep, hidT_get e (nodict e d), d, r⟩
    have kb : K.In (hidT s₁.heap H) := fun b o e => hidT_get (KX b o e) (notK e)
    have md : Mod K mg (hidT s₁.heap H) := ⟨kb, ns' hns, ⟨mb, ns' hb, hbb⟩, hlim.elim fun mc h => ⟨mc, ns' h.1, h.2⟩⟩
    have e0 : Env0 P w K mg (hidT s₁.heap H) callerA [] s₁ H := ⟨rfl, md, fun b o e => of_hidT e, Nat.le_of_eq (hidT_size _ _), trivial, fun b hb => (List.not_mem_nil hb).elim, hok, .of_eq hg⟩
    obtain ⟨fd, ps, len, bd, run⟩ := (F _ kb (ns' hns)).ex
    have sp0 := hsp H hO hS
    have hlen : ([Value.ref a] ++ []).length = ps.length := len _ _ _ _ _ sp0
    have bd0 := bd s₁ [.ref a] KX hlen
    rw [List.append_nil] at bd0
    refine codeAny_mono (run callerA [] [] s₁ H ⟨[.ref a], []⟩ [.ref a] [.ref a] _ _ rfl hr e0 bd0 (.cons rfl .nil) sp0) fun r s' h => ?_
    match r, h with
    | .ok (.ret u), ⟨v, H', os, bare, un, hok', r', q⟩ =>
      have q' : v = .bl true := q
      subst q'
      obtain rfl : u = Value.bool true := r'
      refine ⟨rfl, .of_keep fun b o e => ?_, os, bare⟩
      rcases hq : H b with _ | u
      · exact un.keep b o e hq List.not_mem_nil List.not_mem_nil
      · rcases hO b with z | ⟨ob, xs, z⟩
        · rw [hq] at z; cases z
        · have e2 := (hok' b _ (un.frzs b ob _ z)).1
          have e1 := (hok b _ z).1
          rw [e] at e1
          cases e1
          exact e2
  have hv := vals_ints hi
  rcases hk : K.lookup a with _ | o
  · refine go (fun b => if b = a then some (.frz { cls := .type "list", data := .seq vs.toArray } (.lst (ns.map V.int))) else none) (fun b => ?_) (.inl (.inr ⟨{ cls := .type "list", data := .seq vs.toArray }, if_pos rfl⟩)) (fun b u z => ?_) (fun b z => ?_) fun _ => hk
    · by_cases hb : b = a
      · exact .inr ⟨_, _, if_pos hb⟩
      · exact .inl (if_neg hb)
    · by_cases hb : b = a
      · have z' := (if_pos hb).symm.trans z
        cases z'
        subst hb
        exact ⟨ha, by rw [List.length_map]; exact hl, vs, _, hv, ha⟩
      · cases (if_neg hb).symm.trans z
    · by_cases hb : b = a
      · exact hb
      · exact (z (if_neg hb)).elim
  · have e := KX a o hk
    rw [ha] at e
    cases e
    exact go (fun _ => none) (fun _ => .inl rfl) (.inr ⟨_, vs.toArray, _, hk, rfl, rfl, rfl, by rw [List.size_toArray, hi.length]; exact hl, by simpa using hv⟩) (fun b u z => nomatch (show (none : Option HO) = some u from z)) (fun b z => (z rfl).elim) fun z => (z rfl).elim
theorem walk_ofG {l : PySem.W.OpenLaw} {n k : Nat} {q : Program} {loose : List Str} {XP : (Str → Option Value) → Heap → Prop} {YP : World → Heap → Prop} {d : DefRec}
    (hn : l.most = some n) (hn2 : n ≤ sizeLine) (hdf : d.params.defaults = []) (hr : Room k callerA)
    (F : ∀ (w : World) (mg : Str → Option Value) (fa : Addr) (h : Heap), YP w h → h.Ns mainGlobals mg → mg d.name = some (.ref fa) →
      ∃ (K : PySem.W.Frag) (sp : SpG), K.In h ∧
        (∀ (H : Hp) (a : Addr) (ns : List Int), ns.length ≤ n → Only H → SqL K H a (ns.map V.int) → sp [] [.ref a] H (fun v _ => v = .bl true) fun _ _ _ => False) ∧
        ∀ base : Heap, K.In base → base.Ns mainGlobals mg → FnG l.prog w K mg base k fa sp) :
    PySem.W.WalkO q loose XP YP l.row.toRowW d [] (fun f vs => PySem.call f vs) := by
  refine Att.attach_call hn hdf fun w s₀ s₁ mg mb fa o pm cd doc a vs ns G Y ho hd hcd hmg hobj hints hlen hg => ?_
  obtain ⟨K, sp, KX, hsp, hF⟩ := F w mg fa _ Y G.T.g hmg
  exact law_callG KX G.T.g G.T.b G.T.builtins G.T.nolimit hg hobj hints (Nat.le_trans hlen hn2) hr hF fun H hO hS => hsp H a ns hlen hO hS
end UR

set_option linter.all false
set_option maxRecDepth 100000
set_option maxHeartbeats 4000000
/-! Own rules, ninth part: enumerate(()) and sorted(()), beside those of lists. -/
namespace UR
open PySem PySem.Spec PyProof.Rows L2 PySem.W
open PySem.AutoSeq1 (wpAny_loadPart')
theorem meets_enum1 {v : Value} {o : Obj} {H : Heap → Prop} (B : Begins v o H) :
    Meets (Builtin.«enumerate.__new__» ⟨[.type "enumerate", v], []⟩) (fun _ R s => H s.heap ∧
      R (.ok (.ret (.ref (s.heap.push o).objs.size))) { s with heap := (s.heap.push o).push { cls := .type "enumerate", data := .fields #[.none, .bool false, .ref s.heap.objs.size, rawInt 0, .none, .none] } }) :=
  .of_wp fun prog w A R s h => by
    obtain ⟨hp, g, d, tk, os⟩ := s; obtain ⟨h1, h⟩ := h
    have hsub := sub_enumerate
    have q1 : ∀ {A' : Around} {E : Value → Shared → Prop} {Q : Value → Shared → Prop}, Q (.ref hp.objs.size) ⟨hp.push o, g, d, tk, os⟩ → wpAny (model prog w) A' (pyIter v) Q E ⟨hp, g, d, tk, os⟩ :=
      fun q => B.iter prog w _ _ ⟨hp, g, d, tk, os⟩ _ h1 q
    wp_walk using q1
    refine wpAny_stack_any fun st => wpAny_pure ?_
    split
    · rename_i c _ _ _ _ _
      cases (c == Value.type "enumerate")
      · wp_walk using q1
        exact ⟨_, rfl, h⟩
      · wp_walk using q1
        exact ⟨_, rfl, h⟩
    · wp_walk using q1
      exact ⟨_, rfl, h⟩
/-- nothing comes -/
def It0 (K : PySem.W.Frag) (a : Addr) : It := ⟨fun _ _ => False, fun _ _ _ _ => False, fun i H => i = 0 ∧ SqT K H a []⟩
theorem turn_enum0 {P : Program} {w : World} {K : PySem.W.Frag} {elts : List Expr} {kk : Nat} {tpos : Pos} {a e it : Addr} (hne : a ≠ it) :
    Turn P w K (.Tuple elts kk tpos) (It0 K a) [e, it] e (fun i h => (∃ old, IsEnum h e it ((i : Nat) : Int) old) ∧ h.IsTupleIter it a i ∧ e ≠ it) where
  mem := by simp
  obj := fun i h st b hb => by
    obtain ⟨⟨old, he⟩, ⟨o, ho, hc, hd⟩, _⟩ := st
    have e' : b = e ∨ b = it := by simpa using hb
    rcases e' with z | z
    · rw [z]; exact ⟨_, he, fun v q => nomatch q⟩
    · rw [z]; exact ⟨o, ho, fun v q => by rw [hd] at q; cases q⟩
  keep := fun i h h' st k => let ⟨⟨old, he⟩, hi, hne⟩ := st; ⟨⟨old, k e (by simp) _ he⟩, hi.at fun o q => k it (by simp) o q, hne⟩
  item := fun X _ _ _ _ _ _ _ _ _ _ _ _ _ hg => hg.elim
  done := by
    intro X hP hw hK hc i pins s σ H E I hf st hg
    subst hP hw hK
    obtain ⟨⟨old, he⟩, hit, _⟩ := st
    obtain ⟨rfl, hq⟩ := hg
    obtain ⟨its, rv, p, hz⟩ := I.tuple hq
    cases rv
    obtain ⟨f0, f1, f2, f3, f4, f5⟩ := hf it (by simp)
    exact wpAny_pyNext_enum_endD (Draws.tuple (A := X.A.in1) (I.ok.hd hc) it a hne #[]) he ⟨hit, p⟩ fun h' eb => ⟨rfl, I.turned (t' := s.toks) (fun b o hb q => eb b o hb q) f0 f1 f3 f4 f5⟩
  self := fun A i s Q E st h => let ⟨⟨_, he⟩, _⟩ := st; wpAny_pyIter_enum he h
/-- enumerate(xs), xs a list or an empty tuple -/
def iEnumQ (K : PySem.W.Frag) (ta : TA) : TI := fun σ H R => ta σ H fun vs H1 => ∃ a, vs = [.ref a] ∧ ((∃ xs, SqL K H1 a xs ∧ R (Ite K a) H1) ∨ (SqT K H1 a [] ∧ R (It0 K a) H1))
theorem pi_enumQ {X : Cx} {e : Expr} {ta : TA} {p pos tpos : Pos} {elts : List Expr} {kk : Nat} (hg : Gl X "enumerate") (hm : X.mg "enumerate" = none) (ha : PA X [e] ta) (hs : starEach [e] X.env = [(false, eval e X.env)] := by rfl) :
    PI X (.Tuple elts kk tpos) (.Call (.Name "enumerate" p) [e] [] pos) (iEnumQ X.K ta) := by
  refine ⟨fun pins s σ H R I h => Call_ (ld_blt I hg hm boot_enumerate (PyProof.Rows.callWith_type1 (thn (ha.run pos pins s σ H _ I h) fun us s1 hs1 => ?_) hs rfl))⟩
  obtain ⟨vs, H1, I1, r1, a, rfl, q⟩ := hs1
  rw [Vals.ref1 r1]
  have young : ∀ {fp : List Addr}, (∀ b ∈ fp, b = s1.heap.objs.size + 1 ∨ b = s1.heap.objs.size) → ∀ b ∈ fp, FpOk X pins H1 b := fun hfp b hb => by
    have hle : s1.heap.objs.size ≤ b := by
      rcases hfp b hb with z | z
      · rw [z]; exact Nat.le_add_right _ _
      · rw [z]; exact Nat.le_refl _
    exact I1.fpOk hle (I1.hok.fresh hle)
  rcases q with ⟨xs, hq, q⟩ | ⟨hq, q⟩
  · obtain ⟨its, rv, p', hz⟩ := I1.list hq
    exact call_enumerate_list p'.isList fun h' he hit hsz hk => wpAny_pyIter_enum he ⟨s1.heap.objs.size + 1, [s1.heap.objs.size + 1, s1.heap.objs.size], _, _, H1, rfl, I1.kept (t' := s1.toks) hk, turn_enum a (s1.heap.objs.size + 1) s1.heap.objs.size,
      ⟨⟨.none, he⟩, hit, Nat.succ_ne_self _⟩, young fun b hb => by simpa using hb, q⟩
  · obtain ⟨its, rv, p', hz⟩ := I1.tuple hq
    cases rv
    have pt : s1.heap.IsTuple a #[] := p'
    have nz : a ≠ s1.heap.objs.size := by
      obtain ⟨o, ho, _⟩ := p'
      exact Nat.ne_of_lt (Heap.lt_size ho)
    have hz1 : (s1.heap.push { cls := .type "tuple_iterator", data := .fields #[.ref a, .int 0 0] }).objs.size = s1.heap.objs.size + 1 := Heap.size_push ..
    refine callType_new PySem.F.called_enumerate (by decide) (PySem.F.typeCall_enumerate_1 _) (PySem.F.newCall_enumerate_1 _) (fun obj => PySem.F.args_object_init_2 obj _) PySem.F.entry_enumerate_new (meets_enum1 (begins_tuple a #[])) ⟨pt, ?_⟩
    show _ ∧ _
    rw [hz1]
    have he : IsEnum ((s1.heap.push { cls := .type "tuple_iterator", data := .fields #[.ref a, .int 0 0] }).push { cls := .type "enumerate", data := .fields #[.none, .bool false, .ref s1.heap.objs.size, rawInt 0, .none, .none] }) (s1.heap.objs.size + 1) s1.heap.objs.size 0 .none := by
      have := Heap.get?_push_size (s1.heap.push { cls := .type "tuple_iterator", data := .fields #[.ref a, .int 0 0] }) (o := { cls := .type "enumerate", data := .fields #[.none, .bool false, .ref s1.heap.objs.size, rawInt 0, .none, .none] }) rfl
      rw [hz1] at this; exact this
    refine ⟨⟨_, he, rfl⟩, wpAny_pyIter_enum he ⟨s1.heap.objs.size + 1, [s1.heap.objs.size + 1, s1.heap.objs.size], _, _, H1, rfl, I1.kept (t' := s1.toks) fun b o e => Heap.get?_push_of_some _ (Heap.get?_push_of_some _ e), turn_enum0 nz,
      ⟨⟨.none, he⟩, ⟨_, Heap.get?_push_of_some _ (Heap.get?_push_size _ rfl), rfl, rfl⟩, Nat.succ_ne_self _⟩, young fun b hb => by simpa using hb, q⟩⟩
section
variable {prog : Program} {w : World} {A : Around} {E : Value → Shared → Prop} {s : Shared}
/-- sorted(()) -/
theorem sorted_empty {t : Addr} {Q : Value → Shared → Prop} (ht : IsTup s.heap t #[]) (h : ∀ (h1 h' : Heap) (p : Addr), (∀ b o, s.heap.get? b = some o → h1.get? b = some o) → h1.objs.size ≤ p → (∀ b o, h1.get? b = some o → h'.get? b = some o) → (∃ n, h'.get? p = some (seqObj "list" #[] n)) → Q (.ref p) { s with heap := h' }) :
    wpAny (model prog w) A (call (.builtin "sorted") [.ref t]) Q E s := by
  obtain ⟨o, ho, hc, n, hd⟩ := ht
  refine call_function_entry_kw kind_sorted plain_sorted entry_sorted (args_sorted1 _) ?_
  unfold Builtin.«sorted»
  refine wpAny_bind (m := checkCount "sorted" 1 1 _) (wpAny_pure ?_)
  refine wpAny_bind (wpAny_collect_seq t (.inr rfl) ho hc hd fun h1 k1 => ?_)
  refine wpAny_bind (wpAny_newList ?_ (Nat.zero_le _))
  show wpAny _ _ _ _ _ ({ s with heap := h1.push (seqObj "list" #[] 0) } : Shared)
  have e1 : (h1.push (seqObj "list" #[] 0)).get? h1.objs.size = some (seqObj "list" #[] 0) := Heap.get?_push_size _ rfl
  refine wpAny_bind (wpAny_holding (wpAny_call_entry_kw slot_list_sort ⟨_, e1, rfl⟩ entry_list_sort ?body (args_list_sort _)))
  case body =>
    show wpAny (model prog w) A.in1.in1 (Builtin.«list.sort» ⟨[.ref h1.objs.size], []⟩) _ _ _
    refine list_sort_tree (vs := []) (ns := []) e1 .nil (by decide) fun out ns' hi hp _ => ⟨_, rfl, wpAny_pure ⟨_, rfl, ?_⟩⟩
    cases hp.eq_nil
    have he : out = #[] := by
      have : out.toList = [] := by
        cases hl : out.toList with
        | nil => rfl
        | cons a l => rw [hl] at hi; cases hi
      simpa using this
    subst he
    have hz : (h1.push (seqObj "list" #[] 0)).objs.size = h1.objs.size + 1 := Heap.size_push ..
    refine h h1 _ h1.objs.size k1 (Nat.le_refl _) (fun b o' e => ?_) ?_
    · have lt := Heap.lt_size e
      exact (Heap.get?_update_other _ _ (Nat.ne_of_gt lt)).trans (sortingHeap_old (Nat.ne_of_lt lt) (Heap.get?_push_of_some _ e))
    · have a1 := Heap.get?_update_self (Obj.mapSeq fun _ => (#[] : Array Value)) e1 rfl
      have a2 := Heap.get?_push_of_some (seqObj "list" #[] 0) (Heap.get?_push_of_some (seqObj "tuple" ([] : List Value).toArray 0) a1)
      exact ⟨_, Heap.get?_update_self (Obj.mapSeq fun _ => (#[] : Array Value)) a2 rfl⟩
end
section
variable {X : Cx}
/-- sorted(lines): a list of pairs, or an empty tuple -/
def rSortLQ (K : PySem.W.Frag) : List V → Hp → VK → Prop := fun vs H Q => rSortL K vs H Q ∨ ∃ a, vs = [.ref a] ∧ SqT K H a [] ∧ ∀ p, H p = none → Q (.ref p) (upd H p (.lst []))
theorem cr_sortedLQ (hu : X.A.units + 64 < cLine) : CallR X (.builtin "sorted") (rSortLQ X.K) := by
  intro pins s σ H vs us Q I r h
  rcases h with h | ⟨a, rfl, hq, q⟩
  · exact cr_sortedL hu pins s σ H vs us Q I r h
  · obtain ⟨its, rv, p', hz⟩ := I.tuple hq
    cases rv
    rw [Vals.ref1 r]
    refine sorted_empty p' fun h1 h' p k1 hp k2 hn => ?_
    obtain ⟨n, e⟩ := hn
    have I1 : Inv X pins σ H { s with heap := h1 } := I.kept (t' := s.toks) k1
    exact ⟨.ref p, upd H p (.lst []), I1.laid (t' := s.toks) k2 hp ⟨Nat.zero_le _, [], n, .nil, e⟩, rfl, q p (I1.hok.fresh hp)⟩
end
end UR

set_option linter.all false
set_option maxRecDepth 100000
set_option maxHeartbeats 2000000
/-! Guards, second part: {x!r} of data under guards that hold no data; repr of a list of instances by their own __repr__. -/
namespace UR
open PySem PySem.Spec PyProof.Rows L2
theorem same_new {H : Hp} {p : Addr} {o : HO} (h : H p = none) : Same H (upd H p o) := fun b u e => by rw [upd_ne (ne_of_none e h)]; exact e
/-- what stands under way of repr: lists of instances only -/
def GOk (H : Hp) (g : List Code) : Prop := ∀ id v rest kw, Code.builtin id ⟨v :: rest, kw⟩ ∈ g → ∃ t xs r C dx fs, v = .ref t ∧ H t = some (.lst xs) ∧ V.ref r ∈ xs ∧ H r = some (.ins C dx fs)
theorem GOk.nil {H : Hp} : GOk H [] := fun _ _ _ _ h => nomatch h
theorem GOk.same {H H' : Hp} {g : List Code} (h : GOk H g) (k : Same H H') : GOk H' g := fun id v rest kw m => by
  obtain ⟨t, xs, r, C, dx, fs, e1, e2, e3, e4⟩ := h id v rest kw m
  exact ⟨t, xs, r, C, dx, fs, e1, k _ _ e2, e3, k _ _ e4⟩
theorem GOk.cons {H : Hp} {g : List Code} {a r C dx : Addr} {xs : List V} {fs : List (Str × V)} {id : String} {rest : List Value} {kw : List (Str × Value)} (h : GOk H g) (h1 : H a = some (.lst xs)) (h2 : V.ref r ∈ xs) (h3 : H r = some (.ins C dx fs)) :
    GOk H (.builtin id ⟨.ref a :: rest, kw⟩ :: g) := fun id' v rest' kw' m => by
  rcases List.mem_cons.mp m with e | m
  · cases e
    exact ⟨a, xs, r, C, dx, fs, rfl, h1, h2, h3⟩
  · exact h _ _ _ _ m
section
variable {X : Cx} {pins : List (Addr × Obj)} {σ : L2.St} {H : Hp} {s : Shared} {g : List Code}
theorem readsAll_mem {h : Heap} : ∀ {vs : List Value} {ds : List PyData} {as : List Addr} {v : Value}, ReadsAll h vs ds as → v ∈ vs → ∃ d bs, Reads h v d bs
  | _, _, _, _, .nil, m => nomatch m
  | _, _, _, v, .cons r rs, m => by
    rcases List.mem_cons.mp m with rfl | m
    · exact ⟨_, _, r⟩
    · exact readsAll_mem rs m
theorem vals_mem : ∀ {xs : List V} {us : List Value} {r : Addr}, Vals xs us → V.ref r ∈ xs → Value.ref r ∈ us
  | _, _, _, .nil, m => nomatch m
  | _, _, r, .cons q qs, m => by
    rcases List.mem_cons.mp m with e | m
    · subst e
      cases q
      exact List.mem_cons_self
    · exact List.mem_cons_of_mem _ (vals_mem qs m)
/-- a list with an instance in it is no data -/
theorem no_reads (I : Inv X pins σ H s) {t r C dx : Addr} {xs : List V} {fs : List (Str × V)} (h1 : H t = some (.lst xs)) (h2 : V.ref r ∈ xs) (h3 : H r = some (.ins C dx fs)) {d : PyData} {as : List Addr} : ¬ Reads s.heap (.ref t) d as := by
  intro q
  obtain ⟨_, its, n, rv, _, e⟩ := I.lstM h1
  have hm := vals_mem rv h2
  have er : s.heap.get? r = some (PySem.W.instObj C dx) := (I.hok r _ h3).2.2.2.1
  have inner : ∀ {d' : PyData} {bs : List Addr}, ¬ Reads s.heap (.ref r) d' bs := by
    intro d' bs z
    cases z with
    | list a b c d => rw [er] at a; cases a; cases b
    | tuple a b c d => rw [er] at a; cases a; cases b
    | dict a b c d f => rw [er] at a; cases a; cases b
  cases q with
  | list a b c f =>
    rw [e] at a
    cases a
    cases c
    obtain ⟨d', bs, z⟩ := readsAll_mem f (by simpa using hm)
    exact inner z
  | tuple a b c f => rw [e] at a; cases a; exact absurd (Value.type.inj b) (by decide)
  | dict a b c f f' => rw [e] at a; cases a; exact absurd (Value.type.inj b) (by decide)
theorem GOk.clear (I : Inv X pins σ H s) (h : GOk H g) {b : Addr} {d : PyData} {as : List Addr} (r : Reads s.heap (.ref b) d as) : Clear g b := by
  intro id v rest kw m e
  obtain ⟨t, xs, q, C, dx, fs, e1, e2, e3, e4⟩ := h id v rest kw m
  rw [e] at e1
  cases e1
  exact no_reads I e2 e3 e4 r
/-- {x!r}, x a list of data -/
def tFmtD (K : PySem.W.Frag) (g : List Code) (te : TE) : TE := fun σ H Q => te σ H fun x H1 => ∃ ds, Dp K H1 x (.list ds) ∧ (PyData.list ds).showable = true ∧ (PyData.list ds).hasDict = false ∧ (PyData.list ds).depth ≤ 8 ∧ (PyData.list ds).shown.length ≤ sizeLine ∧ GOk H1 g ∧
  Q (.str (PyData.list ds).shown) H1
theorem pe_fmtD {e : Expr} {te : TE} {pos : Pos} (hu : X.A.units + 64 < cLine) (hg : X.A.guards = some g) (he : PE X e te) : PE X (.FormattedValue e 114 none pos) (tFmtD X.K g te) := by
  refine ⟨fun pins s σ H Q I h => ?_⟩
  refine wpAny_FormattedValue_repr (thn (he.run pins s σ H _ I h) fun v s1 hv => ?_)
  obtain ⟨x, H1, I1, r1, ds, hd, hs, hn, hdp, hz, hG, q⟩ := hv
  obtain ⟨as, rd⟩ := Dp.reads I1 _ x v hd r1
  have done : ∀ h' u tk, (∀ b o, s1.heap.get? b = some o → h'.get? b = some o) → wpAny (model X.prog X.w) X.A (formatField (.str (PyData.list ds).shown u) Str.empty) (EP X pins σ Q) X.xe { s1 with heap := h', toks := tk } := fun h' u tk k => by
    have I2 := I1.kept (t' := tk) k
    exact wpAny_formatField_str ⟨.str _, H1, I2, ⟨u, rfl⟩, q⟩ ⟨.str _, H1, I2.tok _, ⟨_, rfl⟩, q⟩ hz
  cases rd with
  | @list a o vs n xs bs0 h1 h2 h3 h4 =>
    have hz' : (listText (PyData.shownAll ds)).length ≤ sizeLine := by simpa only [PyData.shown] using hz
    simp only [PyData.shown] at done
    have hdp' : PyData.depthAll ds + 1 ≤ 8 := by simpa only [PyData.depth, Nat.add_comm] using hdp
    have hnA : PyData.hasDictAll ds = false := by simpa only [PyData.hasDict] using hn
    obtain ⟨bs, hb, hk⟩ := ReprAllK.of_readsAll (prog := X.prog) (w := X.w) h4 (by simpa [PyData.showable] using hs) (fun z => by rw [hnA] at z; cases z) (fun t ht => Nat.le_trans (listText_mem_le ht) hz')
    have hna : a ∉ bs := not_mem_of_deeper (.list h1 h2 h3 h4) (by simp only [PyData.depth]; omega) hb
    obtain ⟨l⟩ := vs
    cases l with
    | nil =>
      cases (show ReadsAll s1.heap [] ds _ from h4)
      simp only [PyData.shownAll, listText_nil] at done
      exact wpAny_pyReprObj_list_empty ⟨o, h1, h2⟩ (by omega) h1 h3 (done s1.heap _ _ fun _ _ e => e)
    | cons y l =>
      refine wpAny_pyReprObj_listK h1 h2 h3 hna (by simpa using hk.length_eq) (fun i y e => hk.item i y (by simpa using e)) hg (fun b hm => ?_) (by omega) (fun _ _ e => e) (fun h' u tk k => done h' u tk k) hz'
      rcases List.mem_cons.mp hm with e | hm
      · rw [e]
        exact hG.clear I1 (.list h1 h2 h3 h4)
      · obtain ⟨d', as', r', _⟩ := hb b hm
        exact hG.clear I1 r'
end
end UR

set_option linter.all false
set_option maxRecDepth 100000
set_option maxHeartbeats 2000000
/-! Guards, third part: repr(o) by its own __repr__, repr of a list of such. -/
namespace UR
open PySem PySem.Spec PyProof.Rows L2 PySem.W Builtin Builtin.List
section
variable {M : Model} {A : Around} {E : Value → Shared → Prop} {s : Shared} {K : PySem.W.Frag} {x C f : Addr} {ox : Obj} {od : Option Obj}
/-- an item of a list under repr: its own __repr__ -/
theorem reprUnder_own {b : Nat} {Q : Str → Shared → Prop} (hb : b ≤ sizeLine) (hu : A.units < cLine) (XX : K.In s.heap) (I : InstAt s.heap x ox C od) (hs : findIn K (.ref C) "__repr__" = some (some (.ref f))) (hf : isFn K (.ref f) = true)
    (h : wpAny M A (call (.ref f) [.ref x]) (fun v s' => ∃ t u, v = .str t u ∧ Q t s') E s) : wpAny M A (pyReprUnder b (.ref x)) Q E s := by
  refine wpAny_pyReprUnder_ref hb ?_
  unfold pyReprObjUnder pyReprObjBy
  refine wpAny_bind (wpAny_cRoomFor hu ?_)
  refine wpAny_bind (wpAny_bind (I.type.here ((looks_findIn XX hs).here ?_)))
  show wpAny _ _ (if (some (Value.ref f)).isNone = true then _ else _) _ _ _
  rw [if_neg (by simp)]
  have fin : wpAny M A (call (.ref f) ([.ref x] ++ []) >>= fun v => pure (some v)) (fun r s' => ∃ t u, r = some (.str t u) ∧ Q t s') E s :=
    wpAny_bind (wpAny_mono h (fun v s' ⟨t, u, e, q⟩ => wpAny_pure ⟨t, u, by rw [e], q⟩) fun _ _ z => z)
  have mid : wpAny M A (callSpecialIfBoundBy? (fun g first => match reprUnder? g, first with
      | some twin, [self] => call twin [self, rawInt b]
      | _, _ => call g (first ++ [])) (.ref x) "__repr__") (fun r s' => ∃ t u, r = some (.str t u) ∧ Q t s') E s := by
    simp only [callSpecialIfBoundBy?, bindSpecialIfBound?]
    refine wpAny_holding (wpAny_bind (wpAny_bind (wpAny_bind (I.type.here ((looks_findIn XX hs).here (wpAny_bind (wpAny_askSetting (wpAny_ite ?_))))))))
    split
    · exact wpAny_bind ((bind_fn XX _ (beq_iff_eq.mp hf)).here (wpAny_pure (by exact fin)))
    · exact wpAny_tryCatch (wpAny_bind ((bind_fn XX _ (beq_iff_eq.mp hf)).here (wpAny_pure (by exact fin))))
  refine wpAny_bind (wpAny_mono mid (fun r s' z => ?_) fun _ _ z => z)
  obtain ⟨t, u, rfl, q⟩ := z
  exact wpAny_bind (wpAny_isInstance (T := "str") (b := true) rfl isSubtype_str_str (wpAny_pure ⟨t, u, rfl, q⟩))
end
theorem strs_ps : ∀ {ts : List Str} {acc : List Value}, Vals (ts.map V.str) acc → ∃ ps : List (Str × Tok), acc = strValues ps ∧ ps.map (·.1) = ts
  | [], acc, r => by cases r; exact ⟨[], rfl, rfl⟩
  | t :: ts, acc, r => by
    cases r with
    | cons r1 r2 =>
      obtain ⟨tk, rfl⟩ := r1
      obtain ⟨ps, rfl, e⟩ := strs_ps r2
      exact ⟨(t, tk) :: ps, rfl, by rw [List.map_cons, e]⟩
theorem loop_depth {A : Around} {args : Args} : (A.under (.builtin "list.__repr__.loop" args)).depth ≤ A.depth + 1 := by
  simp [Around.under, Code.weight, Code.isCreation, Code.isGuard, Code.isCaller, Code.frames, Code.isFrame, guardIds]
theorem loop_room {A : Around} {args : Args} {k : Nat} (r : Room (k + 1) A) : Room k (A.under (.builtin "list.__repr__.loop" args)) :=
  ⟨r.hd, by have := r.dp; have := loop_depth (A := A) (args := args); omega, by have := r.un; rw [units_under_list_loop]; omega⟩
section
variable {X : Cx} {pins : List (Addr × Obj)} {σ : L2.St} {n : Nat} {f C : Addr} {sp : SpG}
/-- what a list of instances wants of their __repr__ -/
def RepAt (C : Addr) (sp : SpG) (H : Hp) : List Addr → List Str → Prop := Paired fun b t => IsIns H b C ∧ ∀ H' g, Same H H' → GOk H' g → sp g [.ref b] H' (fun v H'' => v = .str t ∧ H'' = H') E0
theorem RepAt.get {H : Hp} {i : Nat} : ∀ {bs : List Addr} {ts : List Str} {b : Addr}, RepAt C sp H bs ts → bs[i]? = some b → ∃ t, ts[i]? = some t ∧ IsIns H b C ∧ ∀ H' g, Same H H' → GOk H' g → sp g [.ref b] H' (fun v H'' => v = .str t ∧ H'' = H') E0 := by
  induction i with
  | zero =>
    intro bs ts b r e
    cases r with
    | nil => simp at e
    | cons q qs => simp at e; subst e; exact ⟨_, rfl, q⟩
  | succ i ih =>
    intro bs ts b r e
    cases r with
    | nil => simp at e
    | cons q qs => obtain ⟨t, h1, h2⟩ := ih qs (by simpa using e); exact ⟨t, by simpa using h1, h2⟩
theorem reprs_turn (F : FnG X.prog X.w X.K X.mg X.base n f sp) (hm : Meth X.K C "__repr__" f) {A1 : Around} {R : Result → Shared → Prop} {H : Hp} {a P : Addr} {bs : List Addr} {ts : List Str} (hg : A1.guards = some []) (hr : Room (n + 1) A1) (hfr : A1.frames = X.A.frames)
    (ha : H a = some (.lst (bs.map V.ref))) (hP : H P = none) (hts : RepAt C sp H bs ts) (hz : (listText ts).length ≤ sizeLine) (hE : ∀ e s', R (.error e) s' → R (.error e) s')
    (done : ∀ zs s' u, Inv X pins σ (upd H P (.lst zs)) s' → R (.ok (.ret (.str (listText ts) u))) s') :
    ∀ (left i : Nat) (s : Shared), bs.length - i = left → i ≤ bs.length → Inv X pins σ (upd H P (.lst ((ts.take i).map V.str))) s →
      codeAny (model X.prog X.w) A1 (.builtin "list.__repr__.loop" ⟨[.ref a, rawInt i, .ref P, rawInt ((piled (ts.take i) : Nat) : Int)], []⟩) R s := by
  have len : bs.length = ts.length := hts.length
  have hX : (listText ts).length = (textFrom 0 "[" ts).length + 1 := by
    show (textFrom 0 "[" ts ++ "]").length = _
    rw [strLen_append]; rfl
  have hL := textFrom_len ts 0 "["
  have hp3 := piled_le_listText ts
  have hna : a ≠ P := ne_of_none ha hP
  have hsm : ∀ zs, Same H (upd H P (.lst zs)) := fun zs => same_new hP
  intro left
  induction left with
  | zero =>
    intro i s hk hi I
    obtain rfl : i = bs.length := by omega
    obtain ⟨_, its, m, rv, ln, e⟩ := I.lstM (hsm _ _ _ ha)
    obtain ⟨_, acc, m', rva, lna, eP⟩ := I.lstM upd_same
    have hn : its.length = bs.length := by rw [← ln, List.length_map]
    refine codeAny_builtin PySem.F.entry_list_repr_loop ?_
    show wpAny _ _ («list.__repr__.loop» ⟨[.ref a, .int (bs.length : Nat) 0, .ref P, .int ((piled (ts.take bs.length) : Nat) : Int) 0], []⟩) _ _ s
    rw [repr_loop_tree]
    refine wpAny_bind (wpAny_listItems e rfl ?_)
    have hnone : its.toArray[((bs.length : Nat) : Int).toNat]? = none := by simp [hn]
    simp only [hnone]
    unfold reprEnd
    refine wpAny_bind (wpAny_listItems eP rfl ?_)
    rw [len, List.take_length] at rva
    obtain ⟨ps, hps, hps2⟩ := strs_ps rva
    subst hps
    show wpAny _ _ (forIn (strValues ps).zipIdx ("[" : Str) reprBody >>= fun text => retStr (text ++ "]")) _ _ _
    rw [repr_fold, hps2]
    refine wpAny_bind (wpAny_pure ?_)
    exact wpAny_bind (wpAny_mkStr (wpAny_pure (done _ _ _ (I.tok _))) hz)
  | succ left ih =>
    intro i s hk hi I
    have lt : i < bs.length := by omega
    obtain ⟨t, ht, hin, hsp⟩ := hts.get (List.getElem?_eq_getElem lt)
    have hp1 := piled_take_succ ht
    have hp2 := piled_take_le ts (i + 1)
    have tz : t.length ≤ sizeLine := by have := hL.2.1 t (List.mem_of_getElem? ht); omega
    obtain ⟨_, its, m, rv, ln, e⟩ := I.lstM (hsm _ _ _ ha)
    obtain ⟨u, hu, ru⟩ := rv.get (i := i) (x := .ref bs[i]) (by simp [lt])
    obtain rfl : u = Value.ref bs[i] := ru
    refine codeAny_builtin PySem.F.entry_list_repr_loop ?_
    show wpAny _ _ («list.__repr__.loop» ⟨[.ref a, .int (i : Nat) 0, .ref P, .int ((piled (ts.take i) : Nat) : Int) 0], []⟩) _ _ s
    rw [repr_loop_tree]
    refine wpAny_bind (wpAny_listItems e rfl ?_)
    have hsome : its.toArray[(i : Int).toNat]? = some (Value.ref bs[i]) := by simpa using hu
    simp only [hsome]
    rw [Int.toNat_natCast]
    generalize hA2 : A1.under (.builtin "list.__repr__.loop" ⟨[.ref a, rawInt i, .ref P, rawInt ((piled (ts.take i) : Nat) : Int)], []⟩) = A2
    have g2 : A2.guards = some [.builtin "list.__repr__.loop" ⟨[.ref a, rawInt i, .ref P, rawInt ((piled (ts.take i) : Nat) : Int)], []⟩] := by
      rw [← hA2]
      exact guards_under_guard (isGuard_list_loop _) hg
    have r2 : Room n A2 := by rw [← hA2]; exact loop_room hr
    have f2 : A2.frames = X.A.frames := by
      rw [← hA2]
      refine Eq.trans ?_ hfr
      first | rfl | simp [Around.under, Code.envs, Code.isFrame, pushEnvs]
    obtain ⟨dx, fs, hI⟩ := hin
    have hI2 := hsm ((ts.take i).map V.str) _ _ hI
    obtain ⟨ox, od, J⟩ := inst_at I ⟨dx, fs, hI2⟩
    have gok : GOk (upd H P (.lst ((ts.take i).map V.str))) [.builtin "list.__repr__.loop" ⟨[.ref a, rawInt i, .ref P, rawInt ((piled (ts.take i) : Nat) : Int)], []⟩] :=
      GOk.nil.cons (hsm _ _ _ ha) (List.mem_map.mpr ⟨bs[i], List.getElem_mem lt, rfl⟩) hI2
    refine wpAny_bind (wpAny_holding (reprUnder_own (b := piled (ts.take i) + 1) (by omega) r2.units0 I.kIn J hm.at_ hm.fn ?_))
    refine wpAny_mono (F.at_ (E := fun e s' => R (.error e) s') g2 ⟨r2, f2⟩ I (Paired.cons (relref bs[i]) Paired.nil) (hsp _ _ (hsm _) gok)) (fun v s2 z => ?_) fun _ _ z => z
    obtain ⟨y, H', I2, ry, rfl, rfl⟩ := z
    obtain ⟨tk, rfl⟩ := ry
    refine ⟨t, tk, rfl, ?_⟩
    refine wpAny_bind (wpAny_mkStr ?_ tz)
    refine wpAny_bind ?_
    have I3 := I2.tok (s2.toks + 1)
    obtain ⟨_, acc, m', rva, lna, eP⟩ := I3.lstM upd_same
    show wpAny _ _ (updateSeq P _) _ _ _
    have lz : acc.length ≤ sizeLine := by
      rw [← lna, List.length_map, List.length_take]
      have h1 := hL.1
      rw [if_neg (Nat.lt_irrefl 0)] at h1
      omega
    have I4 := I3.lset (f := (·.push (Value.str t s2.toks))) (its' := acc ++ [Value.str t s2.toks]) (ys := (ts.take (i + 1)).map V.str) (t' := s2.toks + 1) upd_same eP (by simp)
      (by rw [List.take_add_one, ht, List.map_append]; exact rva.append (.cons ⟨_, rfl⟩ .nil)) (by
        rw [List.length_map, List.length_take]
        have h1 := hL.1
        rw [if_neg (Nat.lt_irrefl 0)] at h1
        omega)
    rw [upd_upd] at I4
    have e1 : ((i : Int) + 1) = ((i + 1 : Nat) : Int) := by omega
    have e2 : piled (ts.take i) + (t.length + 2) = piled (ts.take (i + 1)) := by omega
    refine wpAny_updateSeq eP rfl (wpAny_pure ⟨PySem.F.quiet_list_repr_loop _, ?_⟩) (by rw [List.size_toArray]; exact lz) (by show (acc.toArray.push _).size ≤ sizeLine + 1; rw [Array.size_push, List.size_toArray]; omega)
    rw [e1, e2]
    exact ih (i + 1) _ (by omega) lt I4
/-- repr(l), l a list of instances of the class at C -/
def rReprL (C : Addr) (sp : SpG) : List V → Hp → VK → Prop := fun vs H Q => ∃ (a : Addr) (bs : List Addr) (ts : List Str), vs = [.ref a] ∧ H a = some (.lst (bs.map V.ref)) ∧ RepAt C sp H bs ts ∧ (listText ts).length ≤ sizeLine ∧ ∀ H', Same H H' → Q (.str (listText ts)) H'
theorem call_reprL (F : FnG X.prog X.w X.K X.mg X.base n f sp) (hm : Meth X.K C "__repr__" f) (hg : X.A.guards = some []) (hr : Room (n + 3) X.A) : CallR X (.builtin "repr") (rReprL C sp) := by
  intro pins s σ H us vs Q I rv h
  obtain ⟨a, bs, ts, rfl, ha, hts, hz, q⟩ := h
  obtain ⟨u, rfl, ru⟩ := vals1 rv
  obtain rfl : u = Value.ref a := ru
  obtain ⟨_, its, m, rvs, ln, e⟩ := I.lstM ha
  have un := hr.units
  refine call_repr_slot (T := "list") (by omega) ⟨_, e, rfl⟩ PySem.F.slot_list_repr.toG ?_
  cases bs with
  | nil =>
    cases hts
    cases rvs
    exact call_list_repr_empty ⟨_, e, rfl⟩ e rfl ⟨_, _, rfl, .str _, H, I.tok _, ⟨_, by rw [← listText_nil]⟩, q _ (Same.refl _)⟩
  | cons b bs =>
    cases rvs with
    | @cons _ v0 _ l0 r1 r2 =>
      obtain rfl : v0 = Value.ref b := r1
      refine wpAny_call (codeAny_call_builtin PySem.F.slot_list_repr.plain PySem.F.entry_list_repr (PySem.F.slot_list_repr.check _ _ _ _ _ _ _ _ ⟨_, e, rfl⟩ (PySem.F.args_list_repr_1 _) ?_))
      refine wpAny_list_repr_head (g := []) (o := _) hg (fun v rest kw hmem => nomatch hmem) e rfl ?_
      refine wpAny_bind (m := newList []) (wpAny_newObj_type ?_)
      refine wpAny_pure ⟨PySem.F.quiet_list_repr_loop _, ?_⟩
      have I2 : Inv X pins σ (upd H s.heap.objs.size (.lst [])) { s with heap := s.heap.push { cls := .type "list", data := .seq #[] } } := I.lnew (its := []) (t' := s.toks) .nil (Nat.zero_le _)
      refine reprs_turn (bs := b :: bs) (ts := ts) F hm (A1 := X.A.in1) hg (hr.in1.mono (by omega)) rfl ha I.fresh hts hz (fun _ _ z => z) (fun zs s' u J => ?_) _ 0 _ rfl (Nat.zero_le _) I2
      exact ⟨_, _, rfl, .str _, _, J, ⟨u, rfl⟩, q _ (same_new I.fresh)⟩
/-- repr(o) -/
def rReprO (C : Addr) (sp : SpG) : List V → Hp → VK → Prop := fun vs H Q => ∃ (a : Addr), vs = [.ref a] ∧ IsIns H a C ∧ sp [] [.ref a] H (fun v H' => ∃ t, v = .str t ∧ Q v H') E0
theorem call_reprO (F : FnG X.prog X.w X.K X.mg X.base n f sp) (hm : Meth X.K C "__repr__" f) (hg : X.A.guards = some []) (hr : Room (n + 1) X.A) : CallR X (.builtin "repr") (rReprO C sp) := by
  intro pins s σ H us vs Q I rv h
  obtain ⟨a, rfl, hi, hsp⟩ := h
  obtain ⟨u, rfl, ru⟩ := vals1 rv
  obtain rfl : u = Value.ref a := ru
  obtain ⟨ox, od, J⟩ := inst_at I hi
  obtain ⟨m, hF⟩ := I.fr
  refine PySem.W.repr_K hr.in1.units0 hF I.ok.mod.kin J hm.at_ hm.fn ?_
  refine wpAny_mono (F.at_ (A1 := X.A.in1) (E := X.xe) hg ⟨hr.in1, rfl⟩ I (Paired.cons (relref a) Paired.nil) hsp) (fun v s2 z => ?_) fun _ _ z => z
  obtain ⟨y, H', I2, ry, t, rfl, q⟩ := z
  obtain ⟨tk, rfl⟩ := ry
  exact ⟨.str t, H', I2, ⟨tk, rfl⟩, q⟩
end
end UR

set_option linter.all false
set_option maxRecDepth 100000
set_option maxHeartbeats 2000000
/-! Heaps of this program's data; what is walked; comprehensions over it. -/
namespace UR
open PySem PySem.Spec PyProof.Rows L2
/-- all but a list with a number in it -/
def Good : HO → Prop
  | .lst xs => ∀ i : Int, V.int i ∉ xs
  | _ => True
def SameG (H H' : Hp) : Prop := ∀ b o, Good o → H b = some o → H' b = some o
theorem _root_.L2.Same.g {H H' : Hp} (h : Same H H') : SameG H H' := fun b o _ e => h b o e
theorem SameG.refl (H : Hp) : SameG H H := fun _ _ _ h => h
theorem SameG.trans {H H1 H2 : Hp} (a : SameG H H1) (b : SameG H1 H2) : SameG H H2 := fun c o g h => b c o g (a c o g h)
theorem sameG_new {H : Hp} {p : Addr} {o : HO} (h : H p = none) : SameG H (upd H p o) := (same_new h).g
/-- the heap without one place -/
def ers (l : Addr) (H : Hp) : Hp := fun b => if b = l then none else H b
theorem ers_at (l : Addr) (H : Hp) : ers l H l = none := if_pos rfl
theorem ers_ne {l b : Addr} {H : Hp} (h : b ≠ l) : ers l H b = H b := if_neg h
theorem ers_upd (l : Addr) (H : Hp) (o : HO) : ers l (upd H l o) = ers l H := by
  funext b
  unfold ers
  by_cases h : b = l
  · rw [if_pos h, if_pos h]
  · rw [if_neg h, if_neg h, upd_ne h]
theorem ers_some {l b : Addr} {H : Hp} {o : HO} (h : ers l H b = some o) : b ≠ l ∧ H b = some o := by
  unfold ers at h
  by_cases e : b = l
  · rw [if_pos e] at h; cases h
  · rw [if_neg e] at h; exact ⟨e, h⟩
theorem ers_same (l : Addr) (H : Hp) : Same (ers l H) H := fun _ _ h => (ers_some h).2
theorem ers_free {l : Addr} {H : Hp} (h : H l = none) : ers l H = H := by
  funext b
  by_cases e : b = l
  · rw [e, ers_at, h]
  · rw [ers_ne e]
theorem _root_.L2.Same.ers {H H' : Hp} (l : Addr) (h : Same H H') : Same (ers l H) (ers l H') := fun b o e => by
  obtain ⟨n, e⟩ := ers_some e
  rw [ers_ne n]; exact h _ _ e
theorem sameG_ers {H H' : Hp} (l : Addr) (h : SameG H H') : SameG (ers l H) (ers l H') := fun b o g e => by
  obtain ⟨n, e⟩ := ers_some e
  rw [ers_ne n]; exact h _ _ g e
/-- what was free at l holds without l -/
theorem _root_.L2.Same.ers0 {H H' : Hp} {l : Addr} (h : Same H H') (n : H l = none) : Same H (ers l H') := fun b o e => by
  rw [ers_ne (ne_of_none e n)]; exact h _ _ e
theorem sameG_ers0 {H H' : Hp} {l : Addr} (h : SameG H H') (n : H l = none) : SameG H (ers l H') := fun b o g e => by
  rw [ers_ne (ne_of_none e n)]; exact h _ _ g e
theorem same_put {G H : Hp} {l : Addr} {o : HO} (h : Same G (ers l H)) : Same G (upd H l o) := fun b u e => by
  obtain ⟨n, e⟩ := ers_some (h _ _ e)
  rw [upd_ne n]; exact e
theorem sameG_put {G H : Hp} {l : Addr} {o : HO} (h : SameG G (ers l H)) : SameG G (upd H l o) := fun b u g e => by
  obtain ⟨n, e⟩ := ers_some (h _ _ g e)
  rw [upd_ne n]; exact e
/-- a list of numbers is no matter -/
theorem sameG_bad {H : Hp} {l : Addr} {xs : List V} {i : Int} (h : H l = some (.lst xs)) (m : V.int i ∈ xs) : SameG H (ers l H) := fun b o g e => by
  by_cases q : b = l
  · subst q
    rw [h] at e
    cases e
    exact (g i m).elim
  · rw [ers_ne q]; exact e
/-! ### texts, pairs of texts, lists of them -/
def LS (H : Hp) (a : Addr) (l : List Str) : Prop := H a = some (.lst (l.map V.str))
def TP (H : Hp) (t : Addr) (p : Str × Str) : Prop := H t = some (.tup [.str p.1, .str p.2])
/-- a list of lists of texts, with their places -/
def LLp (H : Hp) (a : Addr) (ps : List (Addr × List Str)) : Prop := H a = some (.lst (ps.map fun p => .ref p.1)) ∧ ∀ p ∈ ps, LS H p.1 p.2
def LL (H : Hp) (a : Addr) (ll : List (List Str)) : Prop := ∃ ps, ll = ps.map (·.2) ∧ LLp H a ps
/-- a list of pairs of texts, with their places -/
def LTp (H : Hp) (a : Addr) (ps : List (Addr × Str × Str)) : Prop := H a = some (.lst (ps.map fun p => .ref p.1)) ∧ ∀ p ∈ ps, TP H p.1 p.2
def LT (H : Hp) (a : Addr) (ls : List (Str × Str)) : Prop := ∃ ps, ls = ps.map (·.2) ∧ LTp H a ps
theorem good_str (l : List Str) : Good (.lst (l.map V.str)) := fun i m => by
  obtain ⟨x, _, e⟩ := List.mem_map.mp m
  cases e
theorem good_ref {α : Type} (f : α → Addr) (l : List α) : Good (.lst (l.map fun p => .ref (f p))) := fun i m => by
  obtain ⟨x, _, e⟩ := List.mem_map.mp m
  cases e
theorem LS.g {H H' : Hp} {a : Addr} {l : List Str} (h : LS H a l) (s : SameG H H') : LS H' a l := s _ _ (good_str l) h
theorem TP.g {H H' : Hp} {a : Addr} {l : Str × Str} (h : TP H a l) (s : SameG H H') : TP H' a l := s _ _ True.intro h
theorem LLp.g {H H' : Hp} {a : Addr} {l : List (Addr × List Str)} (h : LLp H a l) (s : SameG H H') : LLp H' a l := ⟨s _ _ (good_ref _ _) h.1, fun p m => (h.2 p m).g s⟩
theorem LTp.g {H H' : Hp} {a : Addr} {l : List (Addr × Str × Str)} (h : LTp H a l) (s : SameG H H') : LTp H' a l := ⟨s _ _ (good_ref _ _) h.1, fun p m => (h.2 p m).g s⟩
theorem LL.g {H H' : Hp} {a : Addr} {l : List (List Str)} (h : LL H a l) (s : SameG H H') : LL H' a l := let ⟨ps, e, h⟩ := h; ⟨ps, e, h.g s⟩
theorem LT.g {H H' : Hp} {a : Addr} {l : List (Str × Str)} (h : LT H a l) (s : SameG H H') : LT H' a l := let ⟨ps, e, h⟩ := h; ⟨ps, e, h.g s⟩
theorem LLp.s {H H' : Hp} {a : Addr} {l : List (Addr × List Str)} (h : LLp H a l) (s : Same H H') : LLp H' a l := h.g s.g
theorem LTp.s {H H' : Hp} {a : Addr} {l : List (Addr × Str × Str)} (h : LTp H a l) (s : Same H H') : LTp H' a l := h.g s.g
/-- a list of made lists -/
theorem LL.made {β : Type} {H : Hp} {D : Addr} {gg : β → List Str} : ∀ {bs : List β} {ys : List V}, Paired (fun b y => ∃ p, y = V.ref p ∧ LS H p (gg b)) bs ys → H D = some (.lst ys) → LL H D (bs.map gg) := by
  intro bs ys p e
  have : ∃ ps : List (Addr × List Str), bs.map gg = ps.map (·.2) ∧ ys = ps.map (fun p => V.ref p.1) ∧ ∀ p ∈ ps, LS H p.1 p.2 := by
    clear e
    induction p with
    | nil => exact ⟨[], rfl, rfl, fun _ h => nomatch h⟩
    | @cons b y bs ys r t ih =>
      obtain ⟨q, rfl, hq⟩ := r
      obtain ⟨ps, e1, rfl, h⟩ := ih
      refine ⟨(q, gg b) :: ps, by rw [List.map_cons, e1]; rfl, rfl, fun p m => ?_⟩
      rcases List.mem_cons.mp m with rfl | m
      · exact hq
      · exact h p m
  obtain ⟨ps, e1, rfl, h⟩ := this
  exact ⟨ps, e1, e, h⟩
theorem LT.made {β : Type} {H : Hp} {D : Addr} {gg : β → Str × Str} : ∀ {bs : List β} {ys : List V}, Paired (fun b y => ∃ p, y = V.ref p ∧ TP H p (gg b)) bs ys → H D = some (.lst ys) → LT H D (bs.map gg) := by
  intro bs ys p e
  have : ∃ ps : List (Addr × Str × Str), bs.map gg = ps.map (·.2) ∧ ys = ps.map (fun p => V.ref p.1) ∧ ∀ p ∈ ps, TP H p.1 p.2 := by
    clear e
    induction p with
    | nil => exact ⟨[], rfl, rfl, fun _ h => nomatch h⟩
    | @cons b y bs ys r t ih =>
      obtain ⟨q, rfl, hq⟩ := r
      obtain ⟨ps, e1, rfl, h⟩ := ih
      refine ⟨(q, gg b) :: ps, by rw [List.map_cons, e1]; rfl, rfl, fun p m => ?_⟩
      rcases List.mem_cons.mp m with rfl | m
      · exact hq
      · exact h p m
  obtain ⟨ps, e1, rfl, h⟩ := this
  exact ⟨ps, e1, e, h⟩
/-- some of the pairs, by their places -/
theorem LTp.sub {H H' : Hp} {a D : Addr} {ps qs : List (Addr × Str × Str)} (h : LTp H a ps) (s : SameG H H') (e : H' D = some (.lst (qs.map fun p => .ref p.1))) (m : ∀ q ∈ qs, q ∈ ps) : LTp H' D qs := ⟨e, fun q hq => (h.2 q (m q hq)).g s⟩
theorem LS.s {H H' : Hp} {a : Addr} {l : List Str} (h : LS H a l) (s : Same H H') : LS H' a l := s _ _ h
theorem TP.s {H H' : Hp} {a : Addr} {l : Str × Str} (h : TP H a l) (s : Same H H') : TP H' a l := s _ _ h
theorem LL.s {H H' : Hp} {a : Addr} {l : List (List Str)} (h : LL H a l) (s : Same H H') : LL H' a l := h.g s.g
theorem LT.s {H H' : Hp} {a : Addr} {l : List (Str × Str)} (h : LT H a l) (s : Same H H') : LT H' a l := h.g s.g
theorem LS.sq {K : PySem.W.Frag} {H : Hp} {a : Addr} {l : List Str} (h : LS H a l) : SqL K H a (l.map V.str) := .inl (.inl h)
theorem sqR {K : PySem.W.Frag} {H : Hp} {a : Addr} {xs : List V} (h : H a = some (.lst xs)) : SqL K H a xs := .inl (.inl h)
theorem TP.sq {K : PySem.W.Frag} {H : Hp} {a : Addr} {p : Str × Str} (h : TP H a p) : SqT K H a [.str p.1, .str p.2] := .inl (.inl h)
theorem pget {α β : Type} {F : α → β → Prop} : ∀ {l : List α} {m : List β} {i : Nat} {b : β}, Paired F l m → m[i]? = some b → ∃ a, l[i]? = some a ∧ F a b
  | _, _, _, _, .nil, e => by simp at e
  | _, _, 0, _, .cons r _, e => by simp at e; subst e; exact ⟨_, rfl, r⟩
  | _, _, i + 1, _, .cons _ t, e => by
    obtain ⟨a, h1, h2⟩ := pget (i := i) t (by simpa using e)
    exact ⟨a, by simpa using h1, h2⟩
/-! ### what is walked -/
structure Wk {β : Type} (J : It) (Hb : Hp) (bs : List β) (Y : β → V → Hp → Prop) : Prop where
  stop : ∀ H, SameG Hb H → J.stop bs.length H
  go : ∀ i b H, SameG Hb H → bs[i]? = some b → J.go i H ∧ ∀ x H', J.yld i H x H' → Same H H' ∧ Y b x H' ∧ ∀ D, Hb D = none → H D ≠ none → Y b x (ers D H')
  mono : ∀ b x G G', SameG G G' → Y b x G → Y b x G'
theorem seqG {K : PySem.W.Frag} {H H' : Hp} {a : Addr} {xs : List V} (s : SameG H H') (g : ∀ i : Int, V.int i ∉ xs) (h : SqL K H a xs) : SqL K H' a xs := by
  rcases h with (h | ⟨o, h⟩) | h
  · exact .inl (.inl (s _ _ g h))
  · exact .inl (.inr ⟨o, s _ _ True.intro h⟩)
  · exact .inr h
section
variable {K : PySem.W.Frag} {H1 : Hp} {β : Type} {bs : List β} {f : β → V}
theorem wk_list {a : Addr} (h : SqL K H1 a (bs.map f)) (g : ∀ i : Int, V.int i ∉ bs.map f) : Wk (Itl K a) H1 bs fun b x _ => x = f b where
  stop := fun H s => ⟨_, seqG s g h, by simp⟩
  go := fun i b H s e => ⟨⟨_, f b, seqG s g h, by simp [e]⟩, fun x H' y => by
    obtain ⟨rfl, y⟩ := y
    have := y _ (seqG s g h)
    rw [List.getElem?_map, e] at this
    exact ⟨.refl _, (Option.some.inj this).symm, fun D _ _ => (Option.some.inj this).symm⟩⟩
  mono := fun _ _ _ _ _ h => h
theorem wk_tup {a : Addr} (h : H1 a = some (.tup (bs.map f))) : Wk (Itt K a) H1 bs fun b x _ => x = f b where
  stop := fun H s => ⟨_, .inl (.inl (s _ _ True.intro h)), by simp⟩
  go := fun i b H s e => ⟨⟨_, f b, .inl (.inl (s _ _ True.intro h)), by simp [e]⟩, fun x H' y => by
    obtain ⟨rfl, y⟩ := y
    have := y _ (.inl (.inl (s _ _ True.intro h)))
    rw [List.getElem?_map, e] at this
    exact ⟨.refl _, (Option.some.inj this).symm, fun D _ _ => (Option.some.inj this).symm⟩⟩
  mono := fun _ _ _ _ _ h => h
theorem wk_enum {a : Addr} (h : SqL K H1 a (bs.map f)) (g : ∀ i : Int, V.int i ∉ bs.map f) : Wk (Ite K a) H1 bs.zipIdx fun p x G => ∃ T, x = .ref T ∧ G T = some (.tup [.int p.2, f p.1]) where
  stop := fun H s => ⟨_, seqG s g h, by simp⟩
  go := fun i b H s e => by
    have e' : bs[i]? = some b.1 ∧ b.2 = i := by
      rw [List.getElem?_zipIdx] at e
      cases q : bs[i]? with
      | none => rw [q] at e; cases e
      | some c => rw [q] at e; cases e; exact ⟨rfl, by simp⟩
    refine ⟨⟨_, f b.1, seqG s g h, by simp [e'.1]⟩, fun x H' y => ?_⟩
    obtain ⟨T, x', rfl, hT, rfl, y⟩ := y
    have := y _ (seqG s g h)
    rw [List.getElem?_map, e'.1] at this
    have u : upd H T (.tup [.int (i : Nat), x']) T = some (.tup [.int b.2, f b.1]) := by rw [upd_same, ← Option.some.inj this, e'.2]
    exact ⟨same_new hT, ⟨T, rfl, u⟩, fun D hD hD' => ⟨T, rfl, (ers_ne (show T ≠ D from fun z => hD' (z ▸ hT))).trans u⟩⟩
  mono := fun b x G G' s ⟨T, e, h⟩ => ⟨T, e, s _ _ True.intro h⟩
theorem wk_enum0 {a : Addr} {γ : Type} (h : SqT K H1 a []) (Y : γ → V → Hp → Prop) (hm : ∀ b x G G', SameG G G' → Y b x G → Y b x G') : Wk (It0 K a) H1 ([] : List γ) Y where
  stop := fun H s => ⟨rfl, by
    rcases h with (h | ⟨o, h⟩) | h
    · exact .inl (.inl (s _ _ True.intro h))
    · exact .inl (.inr ⟨o, s _ _ True.intro h⟩)
    · exact .inr h⟩
  go := fun i b H s e => by simp at e
  mono := hm
theorem wk_zip {a b : Addr} {γ : Type} {cs : List γ} {f2 : γ → V} (h : SqL K H1 a (bs.map f)) (g : ∀ i : Int, V.int i ∉ bs.map f) (h2 : SqL K H1 b (cs.map f2)) (g2 : ∀ i : Int, V.int i ∉ cs.map f2) :
    Wk (Itz K a b) H1 (bs.zip cs) fun p x G => ∃ T, x = .ref T ∧ G T = some (.tup [f p.1, f2 p.2]) where
  stop := fun H s => ⟨_, _, seqG s g h, seqG s g2 h2, by
    rw [List.length_zip, List.length_map, List.length_map]
    omega⟩
  go := fun i p H s e => by
    rw [List.getElem?_zip_eq_some] at e
    obtain ⟨e1, e2⟩ := e
    refine ⟨⟨_, _, f p.1, f2 p.2, seqG s g h, seqG s g2 h2, by simp [e1], by simp [e2]⟩, fun x H' y => ?_⟩
    obtain ⟨T, x1, x2, rfl, hT, rfl, y1, y2⟩ := y
    have q1 := y1 _ (seqG s g h)
    have q2 := y2 _ (seqG s g2 h2)
    rw [List.getElem?_map, e1] at q1
    rw [List.getElem?_map, e2] at q2
    have u : upd H T (.tup [x1, x2]) T = some (.tup [f p.1, f2 p.2]) := by rw [upd_same, ← Option.some.inj q1, ← Option.some.inj q2]
    exact ⟨same_new hT, ⟨T, rfl, u⟩, fun D hD hD' => ⟨T, rfl, (ers_ne (show T ≠ D from fun z => hD' (z ▸ hT))).trans u⟩⟩
  mono := fun b x G G' s ⟨T, e, h⟩ => ⟨T, e, s _ _ True.intro h⟩
theorem wk_range (lo : Int) (n : Nat) : Wk (Itr lo n) H1 (List.range n) fun b x _ => x = .int (lo + (b : Nat)) where
  stop := fun H s => by rw [List.length_range]; exact Nat.le_refl _
  go := fun i b H s e => by
    have hi : i < n := by
      have := (List.getElem?_eq_some_iff.mp e).1
      rwa [List.length_range] at this
    have : b = i := by
      rw [List.getElem?_range hi] at e
      exact (Option.some.inj e).symm
    subst this
    exact ⟨hi, fun x H' y => ⟨by rw [y.1]; exact .refl _, y.2, fun D _ _ => y.2⟩⟩
  mono := fun _ _ _ _ _ h => h
theorem wk_rangeC (lo c : Int) (n : Nat) : Wk (Itc lo c n) H1 (List.range n) fun b x _ => x = .int (lo + (b : Nat) * c) where
  stop := fun H s => by rw [List.length_range]; exact Nat.le_refl _
  go := fun i b H s e => by
    have hi : i < n := by
      have := (List.getElem?_eq_some_iff.mp e).1
      rwa [List.length_range] at this
    have : b = i := by
      rw [List.getElem?_range hi] at e
      exact (Option.some.inj e).symm
    subst this
    exact ⟨hi, fun x H' y => ⟨by rw [y.1]; exact .refl _, y.2, fun D _ _ => y.2⟩⟩
  mono := fun _ _ _ _ _ h => h
theorem wk_str (x : Str) : Wk (Its x) H1 x.cps.toList fun c v _ => v = .str ⟨#[c]⟩ where
  stop := fun H s => by show x.cps.size ≤ _; simp
  go := fun i b H s e => by
    have e' : x.cps[i]? = some b := by simpa using e
    exact ⟨(Array.getElem?_eq_some_iff.mp e').1, fun v H' y => by
      obtain ⟨rfl, c, hc, rfl⟩ := y
      rw [hc] at e'
      cases e'
      exact ⟨.refl _, rfl, fun _ _ _ => rfl⟩⟩
  mono := fun _ _ _ _ _ h => h
end
end UR

set_option linter.all false
set_option maxRecDepth 100000
set_option maxHeartbeats 2000000
/-! Comprehensions and loops over what is walked: the readings, in one piece each. -/
namespace UR
open PySem PySem.Spec PyProof.Rows L2
theorem putK_new {kvs : List (Key × V)} {k : Key} {z : V} (h : k ∉ kvs.map (·.1)) : putK kvs k z = kvs ++ [(k, z)] := by
  have e : (kvs.any fun kv => decide (kv.1 = k)) = false := by
    rw [List.any_eq_false]
    intro kv m q
    exact h (List.mem_map.mpr ⟨kv, m, of_decide_eq_true q⟩)
  unfold putK
  rw [e]
  rfl
section
variable {β : Type} {J : It} {H1 : Hp} {bs : List β} {Y : β → V → Hp → Prop} {g : TG} {tt : TT} {te tk tv : TE} {vs : List Nat} {σ : L2.St} {D : Addr} {Qd : Hp → Prop}
theorem take_succ_filter {keep : β → Bool} {i : Nat} {b : β} (h : bs[i]? = some b) : (bs.take (i + 1)).filter keep = (bs.take i).filter keep ++ (if keep b then [b] else []) := by
  rw [List.take_add_one, h, List.filter_append]
  cases q : keep b <;> simp [q]
/-- [e for x in it if t]: e makes, t drops; R what is known of the made ones -/
theorem lcG (wk : Wk J H1 bs Y) (hD : H1 D = none) (hn : bs.length < sizeLine) (keep : β → Bool) (R : β → V → Hp → Prop) (mono : ∀ b y G G', Same G G' → R b y G → R b y G')
    (turn : ∀ b ∈ bs, ∀ x H (Nx : Hp → Prop), Same H1 (ers D H) → H1 D = none → (∃ acc, H D = some (.lst acc)) → Y b x H → Y b x (ers D H) →
      (∀ y H4, keep b = true → Same H H4 → R b y (ers D H4) → ∃ acc, H4 D = some (.lst acc) ∧ acc.length < sizeLine ∧ Nx (upd H4 D (.lst (acc ++ [y])))) → (∀ H3, keep b = false → Same H H3 → Nx H3) →
      g x (wipe σ vs) H fun σ2 H2 => wipe σ2 vs = wipe σ vs ∧ tt σ2 H2 fun c H3 => if c = true then te σ2 H3 fun y H4 => ∃ acc, H4 D = some (.lst acc) ∧ acc.length < sizeLine ∧ Nx (upd H4 D (.lst (acc ++ [y]))) else Nx H3)
    (hd : ∀ H ys, Same H1 (ers D H) → H D = some (.lst ys) → Paired (fun b y => R b y (ers D H)) (bs.filter keep) ys → Qd H) :
    ∃ W : Nat → Nat → Hp → Prop, (∃ m, W 0 m (upd H1 D (.lst []))) ∧ ∀ i m H, W i m H →
      (J.stop i H ∧ Qd H) ∨ (J.go i H ∧ ∃ Nx : Hp → Prop, (∀ H', Nx H' → ∃ m', m' < m ∧ W (i + 1) m' H') ∧ ∀ x H', J.yld i H x H' → g x (wipe σ vs) H' fun σ2 H2 => wipe σ2 vs = wipe σ vs ∧ tt σ2 H2 fun b H3 =>
        if b = true then te σ2 H3 fun y H4 => ∃ acc, H4 D = some (.lst acc) ∧ acc.length < sizeLine ∧ Nx (upd H4 D (.lst (acc ++ [y]))) else Nx H3) := by
  refine ⟨fun i m H => m = bs.length - i ∧ i ≤ bs.length ∧ Same H1 (ers D H) ∧ ∃ ys, H D = some (.lst ys) ∧ Paired (fun b y => R b y (ers D H)) ((bs.take i).filter keep) ys,
    ⟨bs.length, by simp, Nat.zero_le _, by rw [ers_upd, ers_free hD]; exact .refl _, [], upd_same, .nil⟩, ?_⟩
  rintro i m H ⟨rfl, hi, s, ys, eD, p⟩
  have s' : Same H1 H := s.trans (ers_same D H)
  by_cases hlt : i < bs.length
  · have e : bs[i]? = some bs[i] := List.getElem?_eq_getElem hlt
    obtain ⟨go, yl⟩ := wk.go i _ H s'.g e
    refine .inr ⟨go, fun H' => Same H1 (ers D H') ∧ ∃ ys, H' D = some (.lst ys) ∧ Paired (fun b y => R b y (ers D H')) ((bs.take (i + 1)).filter keep) ys, fun H' h => ⟨bs.length - (i + 1), by omega, rfl, hlt, h⟩, fun x H' y => ?_⟩
    obtain ⟨sm, y1, y2⟩ := yl x H' y
    have eD' := sm _ _ eD
    refine turn _ (List.getElem_mem hlt) x H' _ (s.trans (sm.ers D)) hD ⟨ys, eD'⟩ y1 (y2 D hD (by rw [eD]; simp)) (fun z H4 k s4 r => ?_) (fun H3 k s3 => ?_)
    · have e4 := s4 _ _ eD'
      refine ⟨ys, e4, ?_, ?_, ys ++ [z], upd_same, ?_⟩
      · have := p.length
        have l2 : ((bs.take i).filter keep).length ≤ (bs.take i).length := List.length_filter_le ..
        rw [List.length_take] at l2
        omega
      · rw [ers_upd]; exact s.trans ((sm.trans s4).ers D)
      · rw [ers_upd, take_succ_filter e, k]
        exact (L2.Paired.mapP p fun b y q => mono b y _ _ ((sm.trans s4).ers D) q).snoc r
    · refine ⟨s.trans ((sm.trans s3).ers D), ys, s3 _ _ eD', ?_⟩
      rw [take_succ_filter e, k]
      simpa using L2.Paired.mapP p fun b y q => mono b y _ _ ((sm.trans s3).ers D) q
  · have : i = bs.length := by omega
    subst this
    rw [List.take_length] at p
    exact .inl ⟨wk.stop H s'.g, hd H ys s eD p⟩
/-- every item makes -/
theorem tyes {σ : L2.St} {H : Hp} {Q : Bool → Hp → Prop} (h : Q true H) : tYes σ H Q := h
/-- {k: v for x in it}: keys apart -/
theorem dcG {key : β → Key} (wk : Wk J H1 bs Y) (hD : H1 D = none) (hn : bs.length < sizeLine) (nd : (bs.map key).Nodup) (R : β → V → Hp → Prop) (mono : ∀ b y G G', Same G G' → R b y G → R b y G')
    (turn : ∀ b ∈ bs, ∀ x H (Nx : Hp → Prop), Same H1 (ers D H) → H1 D = none → (∃ acc, H D = some (.dK acc)) → Y b x H → Y b x (ers D H) →
      (∀ z H5, Same H H5 → R b z (ers D H5) → ∃ kvs k, kV (key b) = kV k ∧ H5 D = some (.dK kvs) ∧ kvs.length < sizeLine ∧ Nx (upd H5 D (.dK (putK kvs k z)))) →
      g x (wipe σ vs) H fun σ2 H2 => wipe σ2 vs = wipe σ vs ∧ tYes σ2 H2 fun c H3 => if c = true then tk σ2 H3 fun y H4 => tv σ2 H4 fun z H5 => ∃ kvs k, y = kV k ∧ H5 D = some (.dK kvs) ∧ kvs.length < sizeLine ∧ Nx (upd H5 D (.dK (putK kvs k z))) else Nx H3)
    (hd : ∀ H kvs, Same H1 (ers D H) → H D = some (.dK kvs) → Paired (fun b kv => kv.1 = key b ∧ R b kv.2 (ers D H)) bs kvs → Qd H) :
    ∃ W : Nat → Nat → Hp → Prop, (∃ m, W 0 m (upd H1 D (.dK []))) ∧ ∀ i m H, W i m H →
      (J.stop i H ∧ Qd H) ∨ (J.go i H ∧ ∃ Nx : Hp → Prop, (∀ H', Nx H' → ∃ m', m' < m ∧ W (i + 1) m' H') ∧ ∀ x H', J.yld i H x H' → g x (wipe σ vs) H' fun σ2 H2 => wipe σ2 vs = wipe σ vs ∧ tYes σ2 H2 fun b H3 =>
        if b = true then tk σ2 H3 fun y H4 => tv σ2 H4 fun z H5 => ∃ kvs k, y = kV k ∧ H5 D = some (.dK kvs) ∧ kvs.length < sizeLine ∧ Nx (upd H5 D (.dK (putK kvs k z))) else Nx H3) := by
  refine ⟨fun i m H => m = bs.length - i ∧ i ≤ bs.length ∧ Same H1 (ers D H) ∧ ∃ kvs, H D = some (.dK kvs) ∧ Paired (fun b kv => kv.1 = key b ∧ R b kv.2 (ers D H)) (bs.take i) kvs,
    ⟨bs.length, by simp, Nat.zero_le _, by rw [ers_upd, ers_free hD]; exact .refl _, [], upd_same, .nil⟩, ?_⟩
  rintro i m H ⟨rfl, hi, s, ys, eD, p⟩
  have s' : Same H1 H := s.trans (ers_same D H)
  by_cases hlt : i < bs.length
  · have e : bs[i]? = some bs[i] := List.getElem?_eq_getElem hlt
    obtain ⟨go, yl⟩ := wk.go i _ H s'.g e
    refine .inr ⟨go, fun H' => Same H1 (ers D H') ∧ ∃ kvs, H' D = some (.dK kvs) ∧ Paired (fun b kv => kv.1 = key b ∧ R b kv.2 (ers D H')) (bs.take (i + 1)) kvs, fun H' h => ⟨bs.length - (i + 1), by omega, rfl, hlt, h⟩, fun x H' y => ?_⟩
    obtain ⟨sm, y1, y2⟩ := yl x H' y
    have eD' := sm _ _ eD
    refine turn _ (List.getElem_mem hlt) x H' _ (s.trans (sm.ers D)) hD ⟨ys, eD'⟩ y1 (y2 D hD (by rw [eD]; simp)) (fun z H5 s4 r => ?_)
    have e4 := s4 _ _ eD'
    have keys : ∀ {l : List β} {kvs : List (Key × V)} {F : β → Key × V → Prop}, Paired (fun b kv => kv.1 = key b ∧ F b kv) l kvs → kvs.map (·.1) = l.map key := by
      intro l kvs F q
      induction q with
      | nil => rfl
      | cons a t ih => rw [List.map_cons, List.map_cons, a.1, ih]
    have nk : key bs[i] ∉ ys.map (·.1) := by
      rw [keys p, List.map_take]
      intro hm
      obtain ⟨j, hj, ej⟩ := List.getElem_of_mem hm
      rw [List.length_take, List.length_map] at hj
      have e1 : (bs.map key)[j]? = some (key bs[i]) := by
        rw [List.getElem_take] at ej
        rw [← ej]
        exact List.getElem?_eq_getElem _
      have e2 : (bs.map key)[i]? = some (key bs[i]) := by rw [List.getElem?_map, e]; rfl
      have := nd_ix nd e1 e2
      omega
    have pk : putK ys (key bs[i]) z = ys ++ [(key bs[i], z)] := putK_new nk
    refine ⟨ys, key bs[i], rfl, e4, ?_, ?_, ys ++ [(key bs[i], z)], ?_, ?_⟩
    · have := p.length
      rw [List.length_take] at this
      omega
    · rw [ers_upd]; exact s.trans ((sm.trans s4).ers D)
    · rw [upd_same, pk]
    · rw [ers_upd, List.take_add_one, e]
      exact (L2.Paired.mapP p fun b y q => ⟨q.1, mono b _ _ _ ((sm.trans s4).ers D) q.2⟩).snoc ⟨rfl, r⟩
  · have : i = bs.length := by omega
    subst this
    rw [List.take_length] at p
    exact .inl ⟨wk.stop H s'.g, hd H ys s eD p⟩
end
section
variable {β : Type} {J : It} {Hb H1 : Hp} {bs : List β} {Y : β → V → Hp → Prop} {g : TG} {tb : TS} {σ : L2.St} {E : Ends}
/-- for x in it: Pv what holds ahead of each turn -/
theorem forG (wk : Wk J Hb bs Y) (Pv : Nat → L2.St → Hp → Prop) (h0 : Pv 0 σ H1) (hs : ∀ i σ H, Pv i σ H → SameG Hb H)
    (turn : ∀ i b x σ H H', bs[i]? = some b → Pv i σ H → Same H H' → Y b x H' → g x σ H' fun σ2 H2 => tb { E with nx := Pv (i + 1), ct := Pv (i + 1), bk := E.nx } σ2 H2)
    (hd : ∀ σ H, Pv bs.length σ H → E.nx σ H) :
    ∃ W : Nat → Nat → L2.St → Hp → Prop, (∃ m, W 0 m σ H1) ∧ ∀ i m σ H, W i m σ H →
      (J.stop i H ∧ E.nx σ H) ∨ (J.go i H ∧ ∃ N : L2.St → Hp → Prop, (∀ σ' H', N σ' H' → ∃ m', m' < m ∧ W (i + 1) m' σ' H') ∧ ∀ x H', J.yld i H x H' → g x σ H' fun σ2 H2 => tb { E with nx := N, ct := N, bk := E.nx } σ2 H2) := by
  refine ⟨fun i m σ H => m = bs.length - i ∧ i ≤ bs.length ∧ Pv i σ H, ⟨bs.length, by simp, Nat.zero_le _, h0⟩, ?_⟩
  rintro i m σ H ⟨rfl, hi, p⟩
  have s := hs i σ H p
  by_cases hlt : i < bs.length
  · have e : bs[i]? = some bs[i] := List.getElem?_eq_getElem hlt
    obtain ⟨go, yl⟩ := wk.go i _ H s e
    refine .inr ⟨go, Pv (i + 1), fun σ' H' h => ⟨bs.length - (i + 1), by omega, rfl, hlt, h⟩, fun x H' y => ?_⟩
    obtain ⟨sm, y1, y2⟩ := yl x H' y
    exact turn i _ x σ H H' e p sm y1
  · have : i = bs.length := by omega
    subst this
    exact .inl ⟨wk.stop H s, hd σ H p⟩
end
end UR

set_option linter.all false
set_option maxRecDepth 100000
set_option maxHeartbeats 2000000
/-! Comprehensions of two clauses: the outer walk, the inner one. -/
namespace UR
open PySem PySem.Spec PyProof.Rows L2
theorem pflat {α β : Type} {f : α → List β} {l : List α} {i : Nat} {b : α} (h : l[i]? = some b) : (l.take (i + 1)).flatMap f = (l.take i).flatMap f ++ f b := by
  rw [List.take_add_one, h, List.flatMap_append]
  simp
theorem pflat_len {α β : Type} {f : α → List β} {l : List α} {i : Nat} {b : α} (h : l[i]? = some b) : ((l.take i).flatMap f).length + (f b).length ≤ (l.flatMap f).length := by
  have e : l.flatMap f = (l.take (i + 1)).flatMap f ++ (l.drop (i + 1)).flatMap f := by rw [← List.flatMap_append, List.take_append_drop]
  rw [e, pflat h, List.length_append, List.length_append]
  omega
section
variable {β γ δ : Type} {J J1 : It} {H1 Hb : Hp} {bs : List β} {cs : List γ} {Y : β → V → Hp → Prop} {Y1 : γ → V → Hp → Prop} {g g1 : TG} {tt tt1 : TT} {wi1 : TI} {te tk tv : TE} {vs vs1 : List Nat} {σ σ2 : L2.St} {D : Addr} {Qd Nx : Hp → Prop} {R : δ → V → Hp → Prop}
/-- [e for x in it if t for y in jt if u]: items b, what b's turn makes -/
theorem lc2G (wk : Wk J H1 bs Y) (hD : H1 D = none) (items : β → List δ) (hn : (bs.flatMap items).length < sizeLine)
    (turn : ∀ b ∈ bs, ∀ x pre ys H (Nx : Hp → Prop), Same H1 (ers D H) → H D = some (.lst ys) → Paired (fun d y => R d y (ers D H)) pre ys → pre.length + (items b).length < sizeLine → Y b x H → Y b x (ers D H) →
      (∀ H' ys, Same H1 (ers D H') → H' D = some (.lst ys) → Paired (fun d y => R d y (ers D H')) (pre ++ items b) ys → Nx H') →
      g x (wipe σ vs) H fun σ2 H2 => wipe σ2 vs = wipe σ vs ∧ tt σ2 H2 fun b H3 =>
        if b = true then wi1 σ2 H3 fun J1 H4 => ∃ W1 : Nat → Nat → Hp → Prop, (∃ m, W1 0 m H4) ∧ ∀ j k H, W1 j k H →
          (J1.stop j H ∧ Nx H) ∨ (J1.go j H ∧ ∃ Nx1 : Hp → Prop, (∀ H', Nx1 H' → ∃ k', k' < k ∧ W1 (j + 1) k' H') ∧ ∀ x H', J1.yld j H x H' → g1 x (wipe σ2 vs1) H' fun σ3 H5 => wipe σ3 vs1 = wipe σ2 vs1 ∧ tt1 σ3 H5 fun b H6 =>
            if b = true then te σ3 H6 fun y H7 => ∃ acc, H7 D = some (.lst acc) ∧ acc.length < sizeLine ∧ Nx1 (upd H7 D (.lst (acc ++ [y]))) else Nx1 H6)
        else Nx H3)
    (mono : ∀ b y G G', Same G G' → R b y G → R b y G')
    (hd : ∀ H ys, Same H1 (ers D H) → H D = some (.lst ys) → Paired (fun d y => R d y (ers D H)) (bs.flatMap items) ys → Qd H) :
    ∃ W : Nat → Nat → Hp → Prop, (∃ m, W 0 m (upd H1 D (.lst []))) ∧ ∀ i m H, W i m H →
      (J.stop i H ∧ Qd H) ∨ (J.go i H ∧ ∃ Nx : Hp → Prop, (∀ H', Nx H' → ∃ m', m' < m ∧ W (i + 1) m' H') ∧ ∀ x H', J.yld i H x H' → g x (wipe σ vs) H' fun σ2 H2 => wipe σ2 vs = wipe σ vs ∧ tt σ2 H2 fun b H3 =>
        if b = true then wi1 σ2 H3 fun J1 H4 => ∃ W1 : Nat → Nat → Hp → Prop, (∃ m, W1 0 m H4) ∧ ∀ j k H, W1 j k H →
          (J1.stop j H ∧ Nx H) ∨ (J1.go j H ∧ ∃ Nx1 : Hp → Prop, (∀ H', Nx1 H' → ∃ k', k' < k ∧ W1 (j + 1) k' H') ∧ ∀ x H', J1.yld j H x H' → g1 x (wipe σ2 vs1) H' fun σ3 H5 => wipe σ3 vs1 = wipe σ2 vs1 ∧ tt1 σ3 H5 fun b H6 =>
            if b = true then te σ3 H6 fun y H7 => ∃ acc, H7 D = some (.lst acc) ∧ acc.length < sizeLine ∧ Nx1 (upd H7 D (.lst (acc ++ [y]))) else Nx1 H6)
        else Nx H3) := by
  refine ⟨fun i m H => m = bs.length - i ∧ i ≤ bs.length ∧ Same H1 (ers D H) ∧ ∃ ys, H D = some (.lst ys) ∧ Paired (fun d y => R d y (ers D H)) ((bs.take i).flatMap items) ys,
    ⟨bs.length, by simp, Nat.zero_le _, by rw [ers_upd, ers_free hD]; exact .refl _, [], upd_same, .nil⟩, ?_⟩
  rintro i m H ⟨rfl, hi, s, ys, eD, p⟩
  have s' : Same H1 H := s.trans (ers_same D H)
  by_cases hlt : i < bs.length
  · have e : bs[i]? = some bs[i] := List.getElem?_eq_getElem hlt
    obtain ⟨go, yl⟩ := wk.go i _ H s'.g e
    refine .inr ⟨go, fun H' => Same H1 (ers D H') ∧ ∃ ys, H' D = some (.lst ys) ∧ Paired (fun d y => R d y (ers D H')) ((bs.take (i + 1)).flatMap items) ys, fun H' h => ⟨bs.length - (i + 1), by omega, rfl, hlt, h⟩, fun x H' y => ?_⟩
    obtain ⟨sm, y1, y2⟩ := yl x H' y
    refine turn _ (List.getElem_mem hlt) x _ ys H' _ (s.trans (sm.ers D)) (sm _ _ eD) (L2.Paired.mapP p fun b y q => mono b y _ _ (sm.ers D) q) (Nat.lt_of_le_of_lt (pflat_len e) hn) y1 (y2 D hD (by rw [eD]; simp)) fun H4 ys4 s4 e4 p4 => ⟨s4, ys4, e4, ?_⟩
    rw [pflat e]
    exact p4
  · have : i = bs.length := by omega
    subst this
    rw [List.take_length] at p
    exact .inl ⟨wk.stop H s'.g, hd H ys s eD p⟩
/-- the inner walk of such a turn -/
theorem lc2In {H4 : Hp} {pre : List δ} {ys0 : List V} (wk1 : Wk J1 H1 cs Y1) (hD : H1 D = none) (s4 : Same H1 (ers D H4)) (e4 : H4 D = some (.lst ys0)) (p4 : Paired (fun d y => R d y (ers D H4)) pre ys0) (keep : γ → Bool) (mkd : γ → δ)
    (hn : pre.length + ((cs.filter keep).map mkd).length < sizeLine) (mono : ∀ b y G G', Same G G' → R b y G → R b y G')
    (turn : ∀ c ∈ cs, ∀ x H (Nx1 : Hp → Prop), Same H1 (ers D H) → (∃ acc, H D = some (.lst acc)) → Y1 c x H → Y1 c x (ers D H) →
      (∀ y H7, keep c = true → Same H H7 → R (mkd c) y (ers D H7) → ∃ acc, H7 D = some (.lst acc) ∧ acc.length < sizeLine ∧ Nx1 (upd H7 D (.lst (acc ++ [y])))) → (∀ H6, keep c = false → Same H H6 → Nx1 H6) →
      g1 x (wipe σ2 vs1) H fun σ3 H5 => wipe σ3 vs1 = wipe σ2 vs1 ∧ tt1 σ3 H5 fun b H6 => if b = true then te σ3 H6 fun y H7 => ∃ acc, H7 D = some (.lst acc) ∧ acc.length < sizeLine ∧ Nx1 (upd H7 D (.lst (acc ++ [y]))) else Nx1 H6)
    (fin : ∀ H' ys, Same H1 (ers D H') → H' D = some (.lst ys) → Paired (fun d y => R d y (ers D H')) (pre ++ (cs.filter keep).map mkd) ys → Nx H') :
    ∃ W1 : Nat → Nat → Hp → Prop, (∃ m, W1 0 m H4) ∧ ∀ j k H, W1 j k H →
      (J1.stop j H ∧ Nx H) ∨ (J1.go j H ∧ ∃ Nx1 : Hp → Prop, (∀ H', Nx1 H' → ∃ k', k' < k ∧ W1 (j + 1) k' H') ∧ ∀ x H', J1.yld j H x H' → g1 x (wipe σ2 vs1) H' fun σ3 H5 => wipe σ3 vs1 = wipe σ2 vs1 ∧ tt1 σ3 H5 fun b H6 =>
        if b = true then te σ3 H6 fun y H7 => ∃ acc, H7 D = some (.lst acc) ∧ acc.length < sizeLine ∧ Nx1 (upd H7 D (.lst (acc ++ [y]))) else Nx1 H6) := by
  refine ⟨fun i m H => m = cs.length - i ∧ i ≤ cs.length ∧ Same H1 (ers D H) ∧ ∃ ys, H D = some (.lst ys) ∧ Paired (fun d y => R d y (ers D H)) (pre ++ ((cs.take i).filter keep).map mkd) ys,
    ⟨cs.length, by simp, Nat.zero_le _, s4, ys0, e4, by simpa using p4⟩, ?_⟩
  rintro i m H ⟨rfl, hi, s, ys, eD, p⟩
  have s' : Same H1 H := s.trans (ers_same D H)
  by_cases hlt : i < cs.length
  · have e : cs[i]? = some cs[i] := List.getElem?_eq_getElem hlt
    obtain ⟨go, yl⟩ := wk1.go i _ H s'.g e
    refine .inr ⟨go, fun H' => Same H1 (ers D H') ∧ ∃ ys, H' D = some (.lst ys) ∧ Paired (fun d y => R d y (ers D H')) (pre ++ ((cs.take (i + 1)).filter keep).map mkd) ys, fun H' h => ⟨cs.length - (i + 1), by omega, rfl, hlt, h⟩, fun x H' y => ?_⟩
    obtain ⟨sm, y1, y2⟩ := yl x H' y
    have eD' := sm _ _ eD
    refine turn _ (List.getElem_mem hlt) x H' _ (s.trans (sm.ers D)) ⟨ys, eD'⟩ y1 (y2 D hD (by rw [eD]; simp)) (fun z H7 k s7 r => ?_) (fun H6 k s6 => ?_)
    · have e7 := s7 _ _ eD'
      refine ⟨ys, e7, ?_, ?_, ys ++ [z], upd_same, ?_⟩
      · have l1 := p.length
        rw [List.length_append, List.length_map] at l1
        rw [List.length_map] at hn
        have l2 : ((cs.take (i + 1)).filter keep).length ≤ (cs.filter keep).length := ((List.take_sublist (i + 1) cs).filter keep).length_le
        rw [take_succ_filter e, k, List.length_append] at l2
        simp at l2
        omega
      · rw [ers_upd]; exact s.trans ((sm.trans s7).ers D)
      · rw [ers_upd, take_succ_filter e, k]
        have h := (L2.Paired.mapP p fun b y q => mono b y _ _ ((sm.trans s7).ers D) q).snoc r
        simpa using h
    · refine ⟨s.trans ((sm.trans s6).ers D), ys, s6 _ _ eD', ?_⟩
      rw [take_succ_filter e, k]
      simpa using L2.Paired.mapP p fun b y q => mono b y _ _ ((sm.trans s6).ers D) q
  · have : i = cs.length := by omega
    subst this
    rw [List.take_length] at p
    exact .inl ⟨wk1.stop H s'.g, fin H ys s eD p⟩
/-- {k: v for x in it for y in jt}: items b, the pairs that b's turn puts; keys apart -/
theorem dc2G (wk : Wk J H1 bs Y) (hD : H1 D = none) (items : β → List (Key × V)) (hn : (bs.flatMap items).length < sizeLine) (nd : ((bs.flatMap items).map (·.1)).Nodup)
    (turn : ∀ b ∈ bs, ∀ x pre H (Nx : Hp → Prop), Same H1 (ers D H) → H D = some (.dK pre) → pre.length + (items b).length < sizeLine → ((pre ++ items b).map (·.1)).Nodup → Y b x H → Y b x (ers D H) →
      (∀ H', Same H1 (ers D H') → H' D = some (.dK (pre ++ items b)) → Nx H') →
      g x (wipe σ vs) H fun σ2 H2 => wipe σ2 vs = wipe σ vs ∧
        wi1 σ2 H2 fun J1 H4 => ∃ W1 : Nat → Nat → Hp → Prop, (∃ m, W1 0 m H4) ∧ ∀ j k H, W1 j k H →
          (J1.stop j H ∧ Nx H) ∨ (J1.go j H ∧ ∃ Nx1 : Hp → Prop, (∀ H', Nx1 H' → ∃ k', k' < k ∧ W1 (j + 1) k' H') ∧ ∀ x H', J1.yld j H x H' → g1 x (wipe σ2 vs1) H' fun σ3 H5 => wipe σ3 vs1 = wipe σ2 vs1 ∧
            tk σ3 H5 fun y H6 => tv σ3 H6 fun z H7 => ∃ kvs key, y = kV key ∧ H7 D = some (.dK kvs) ∧ kvs.length < sizeLine ∧ Nx1 (upd H7 D (.dK (putK kvs key z)))))
    (hd : ∀ H, Same H1 (ers D H) → H D = some (.dK (bs.flatMap items)) → Qd H) :
    ∃ W : Nat → Nat → Hp → Prop, (∃ m, W 0 m (upd H1 D (.dK []))) ∧ ∀ i m H, W i m H →
      (J.stop i H ∧ Qd H) ∨ (J.go i H ∧ ∃ Nx : Hp → Prop, (∀ H', Nx H' → ∃ m', m' < m ∧ W (i + 1) m' H') ∧ ∀ x H', J.yld i H x H' → g x (wipe σ vs) H' fun σ2 H2 => wipe σ2 vs = wipe σ vs ∧
        wi1 σ2 H2 fun J1 H4 => ∃ W1 : Nat → Nat → Hp → Prop, (∃ m, W1 0 m H4) ∧ ∀ j k H, W1 j k H →
          (J1.stop j H ∧ Nx H) ∨ (J1.go j H ∧ ∃ Nx1 : Hp → Prop, (∀ H', Nx1 H' → ∃ k', k' < k ∧ W1 (j + 1) k' H') ∧ ∀ x H', J1.yld j H x H' → g1 x (wipe σ2 vs1) H' fun σ3 H5 => wipe σ3 vs1 = wipe σ2 vs1 ∧
            tk σ3 H5 fun y H6 => tv σ3 H6 fun z H7 => ∃ kvs key, y = kV key ∧ H7 D = some (.dK kvs) ∧ kvs.length < sizeLine ∧ Nx1 (upd H7 D (.dK (putK kvs key z))))) := by
  refine ⟨fun i m H => m = bs.length - i ∧ i ≤ bs.length ∧ Same H1 (ers D H) ∧ H D = some (.dK ((bs.take i).flatMap items)),
    ⟨bs.length, by simp, Nat.zero_le _, by rw [ers_upd, ers_free hD]; exact .refl _, upd_same⟩, ?_⟩
  rintro i m H ⟨rfl, hi, s, eD⟩
  have s' : Same H1 H := s.trans (ers_same D H)
  by_cases hlt : i < bs.length
  · have e : bs[i]? = some bs[i] := List.getElem?_eq_getElem hlt
    obtain ⟨go, yl⟩ := wk.go i _ H s'.g e
    refine .inr ⟨go, fun H' => Same H1 (ers D H') ∧ H' D = some (.dK ((bs.take (i + 1)).flatMap items)), fun H' h => ⟨bs.length - (i + 1), by omega, rfl, hlt, h⟩, fun x H' y => ?_⟩
    obtain ⟨sm, y1, y2⟩ := yl x H' y
    refine turn _ (List.getElem_mem hlt) x _ H' _ (s.trans (sm.ers D)) (sm _ _ eD) (Nat.lt_of_le_of_lt (pflat_len e) hn) ?_ y1 (y2 D hD (by rw [eD]; simp)) fun H4 s4 e4 => ⟨s4, ?_⟩
    · rw [← pflat e]
      have e2 : bs.flatMap items = (bs.take (i + 1)).flatMap items ++ (bs.drop (i + 1)).flatMap items := by rw [← List.flatMap_append, List.take_append_drop]
      rw [e2, List.map_append] at nd
      exact (List.nodup_append.mp nd).1
    · rw [pflat e]
      exact e4
  · have : i = bs.length := by omega
    subst this
    rw [List.take_length] at eD
    exact .inl ⟨wk.stop H s'.g, hd H s eD⟩
theorem dc2In {H4 : Hp} {pre : List (Key × V)} (wk1 : Wk J1 H1 cs Y1) (hD : H1 D = none) (s4 : Same H1 (ers D H4)) (e4 : H4 D = some (.dK pre)) (mkd : γ → Key × V) (hn : pre.length + (cs.map mkd).length < sizeLine) (nd : ((pre ++ cs.map mkd).map (·.1)).Nodup)
    (turn : ∀ c ∈ cs, ∀ x H (Nx1 : Hp → Prop), Same H1 (ers D H) → (∃ acc, H D = some (.dK acc)) → Y1 c x H → Y1 c x (ers D H) →
      (∀ H7, Same H H7 → ∃ kvs key, kV (mkd c).1 = kV key ∧ H7 D = some (.dK kvs) ∧ kvs.length < sizeLine ∧ Nx1 (upd H7 D (.dK (putK kvs key (mkd c).2)))) →
      g1 x (wipe σ2 vs1) H fun σ3 H5 => wipe σ3 vs1 = wipe σ2 vs1 ∧ tk σ3 H5 fun y H6 => tv σ3 H6 fun z H7 => ∃ kvs key, y = kV key ∧ H7 D = some (.dK kvs) ∧ kvs.length < sizeLine ∧ Nx1 (upd H7 D (.dK (putK kvs key z))))
    (fin : ∀ H', Same H1 (ers D H') → H' D = some (.dK (pre ++ cs.map mkd)) → Nx H') :
    ∃ W1 : Nat → Nat → Hp → Prop, (∃ m, W1 0 m H4) ∧ ∀ j k H, W1 j k H →
      (J1.stop j H ∧ Nx H) ∨ (J1.go j H ∧ ∃ Nx1 : Hp → Prop, (∀ H', Nx1 H' → ∃ k', k' < k ∧ W1 (j + 1) k' H') ∧ ∀ x H', J1.yld j H x H' → g1 x (wipe σ2 vs1) H' fun σ3 H5 => wipe σ3 vs1 = wipe σ2 vs1 ∧
        tk σ3 H5 fun y H6 => tv σ3 H6 fun z H7 => ∃ kvs key, y = kV key ∧ H7 D = some (.dK kvs) ∧ kvs.length < sizeLine ∧ Nx1 (upd H7 D (.dK (putK kvs key z)))) := by
  refine ⟨fun i m H => m = cs.length - i ∧ i ≤ cs.length ∧ Same H1 (ers D H) ∧ H D = some (.dK (pre ++ (cs.take i).map mkd)),
    ⟨cs.length, by simp, Nat.zero_le _, s4, by simpa using e4⟩, ?_⟩
  rintro i m H ⟨rfl, hi, s, eD⟩
  have s' : Same H1 H := s.trans (ers_same D H)
  by_cases hlt : i < cs.length
  · have e : cs[i]? = some cs[i] := List.getElem?_eq_getElem hlt
    obtain ⟨go, yl⟩ := wk1.go i _ H s'.g e
    refine .inr ⟨go, fun H' => Same H1 (ers D H') ∧ H' D = some (.dK (pre ++ (cs.take (i + 1)).map mkd)), fun H' h => ⟨cs.length - (i + 1), by omega, rfl, hlt, h⟩, fun x H' y => ?_⟩
    obtain ⟨sm, y1, y2⟩ := yl x H' y
    have eD' := sm _ _ eD
    refine turn _ (List.getElem_mem hlt) x H' (fun H' => Same H1 (ers D H') ∧ H' D = some (.dK (pre ++ (cs.take (i + 1)).map mkd))) (s.trans (sm.ers D)) ⟨_, eD'⟩ y1 (y2 D hD (by rw [eD]; simp)) fun H7 s7 => ?_
    have e7 := s7 _ _ eD'
    have nk : (mkd cs[i]).1 ∉ (pre ++ (cs.take i).map mkd).map (·.1) := by
      have e2 : pre ++ cs.map mkd = (pre ++ (cs.take i).map mkd) ++ (mkd cs[i] :: (cs.drop (i + 1)).map mkd) := by
        have h : cs = cs.take i ++ cs[i] :: cs.drop (i + 1) := (List.take_append_drop i cs).symm.trans (by rw [List.drop_eq_getElem_cons hlt])
        have h2 := congrArg (List.map mkd) h
        rw [List.map_append, List.map_cons] at h2
        rw [List.append_assoc, ← h2]
      rw [e2, List.map_append, List.map_cons] at nd
      intro m
      exact (List.nodup_append.mp nd).2.2 _ m _ List.mem_cons_self rfl
    refine ⟨_, (mkd cs[i]).1, rfl, e7, ?_, ?_, ?_⟩
    · rw [List.length_append, List.length_map, List.length_take]
      rw [List.length_map] at hn
      omega
    · rw [ers_upd]; exact s.trans ((sm.trans s7).ers D)
    · rw [upd_same, putK_new nk, List.take_add_one, e, List.map_append, List.append_assoc]
      rfl
  · have : i = cs.length := by omega
    subst this
    rw [List.take_length] at eD
    exact .inl ⟨wk1.stop H s'.g, fin H s eD⟩
end
end UR

set_option linter.all false
set_option maxRecDepth 100000
set_option maxHeartbeats 2000000
/-! The layer's rules with the written part named apart (within a comprehension the context's own is no name). -/
namespace UR
open PySem PySem.Spec PyProof.Rows L2
def rLenS (K : PySem.W.Frag) : List V → Hp → VK → Prop := fun xs H Q => ∃ p ys, xs = [.ref p] ∧ (SqL K H p ys ∨ SqT K H p ys) ∧ Q (.int ys.length) H
def rListOf (K : PySem.W.Frag) : List V → Hp → VK → Prop := fun xs H Q => ∃ p ys, xs = [.ref p] ∧ (SqL K H p ys ∨ SqT K H p ys) ∧ ∀ l, H l = none → Q (.ref l) (upd H l (.lst ys))
structure RIsi (K : PySem.W.Frag) (xs : List V) (H : Hp) (Q : VK) : Prop where
  h : rIsi K xs H Q
structure RAll (K : PySem.W.Frag) (xs : List V) (H : Hp) (Q : VK) : Prop where
  h : rAll K xs H Q
structure RIsiT (K : PySem.W.Frag) (xs : List V) (H : Hp) (Q : VK) : Prop where
  h : rIsiT K xs H Q
section
variable {X : Cx} {K : PySem.W.Frag} (hK : X.K = K) {e e2 o : Expr} {es : List Expr} {te ta to : TE} {t : TA} {f name : Str} {p pos apos cpos tpos : Pos} {tg : Expr}
include hK
theorem k_fld (he : PE X e ta) (hb : attributeBase e f X.env (eval e X.env) = eval e X.env := by rfl) : PE X (.Attribute e f pos) (tFld K ta f) := hK ▸ pe_fld he hb
theorem k_con (he : PE X e ta) (hb : attributeBase e f X.env (eval e X.env) = eval e X.env := by rfl) : PE X (.Attribute e f pos) (tCon K ta f) := hK ▸ pe_con he hb
theorem k_ixl : IxR X (rIxL K) := hK ▸ ix_list
theorem k_ixt : IxR X (rIxT K) := hK ▸ ix_tup
theorem k_in : OpR X (compareOp .In) (rIn K false) := hK ▸ op_in_seq
theorem k_notin : OpR X (compareOp .NotIn) (rIn K true) := hK ▸ op_notIn_seq
theorem k_inD (hu : X.A.units + 65 < cLine) : OpR X (compareOp .In) (rInD K) := hK ▸ op_inD hu
theorem k_notinD (hu : X.A.units + 65 < cLine) : OpR X (compareOp .NotIn) (rNotInD K) := hK ▸ op_notInD hu
theorem k_eqD (hu : X.A.units + 64 < cLine) : OpR X (compareOp .Eq) (rEqD K) := hK ▸ op_eqD hu
theorem k_neD (hu : X.A.units + 64 < cLine) : OpR X (compareOp .NotEq) (rNeD K) := hK ▸ op_neD hu
theorem k_len : CallR X (.builtin "len") (rLenS K) := hK ▸ call_len_seq
theorem k_list : CallR X (.type "list") (rListOf K) := hK ▸ call_list_of
theorem k_sortN (hu : X.A.units + 64 < cLine) : CallR X (.builtin "sorted") (rSortN K) := hK ▸ cr_sortedN hu
theorem k_sortL (hu : X.A.units + 64 < cLine) : CallR X (.builtin "sorted") (rSortL K) := hK ▸ cr_sortedL hu
theorem k_sortLQ (hu : X.A.units + 64 < cLine) : CallR X (.builtin "sorted") (rSortLQ K) := hK ▸ cr_sortedLQ hu
theorem k_all (hc : X.calm = true) : CallR X (.builtin "all") (RAll K) := fun pins s σ H xs us Q I r h => cr_all hc pins s σ H xs us Q I r (hK ▸ h.h)
theorem k_max (hc : X.calm = true) : CallR X (.builtin "max") (rMax K) := hK ▸ cr_max hc
theorem k_sum (hc : X.calm = true) : CallR X (.builtin "sum") (rSum K) := hK ▸ cr_sum hc
theorem k_isi : CallR X (.builtin "isinstance") (RIsi K) := fun pins s σ H xs us Q I r h => call_isi pins s σ H xs us Q I r (hK ▸ h.h)
theorem k_isiT : CallR X (.builtin "isinstance") (RIsiT K) := fun pins s σ H xs us Q I r h => call_isiT pins s σ H xs us Q I r (hK ▸ h.h)
theorem k_iter : CallR X (.builtin "iter") (rIter K) := hK ▸ call_iterL
theorem k_slice : SlR X (rSlL K) := hK ▸ sl_list
theorem k_rev {k : Nat} {p1 p2 p3 : Pos} (he : PE X e te) : PE X (.Subscript e (.Slice none none (some (.UnaryOp .USub (.Constant (.int 1) k p1) p2)) p3) pos) (tRevL K te) := hK ▸ pe_revL he
theorem k_ilist (hl : PE X e te) : PI X tg e (iList K te) := hK ▸ pi_list hl
theorem k_itup (hl : PE X e te) : PI X tg e (iTup K te) := hK ▸ pi_tup hl
theorem k_ienum {elts : List Expr} {kk : Nat} (hg : Gl X "enumerate") (hm : X.mg "enumerate" = none) (ha : PA X [e] t) (hs : starEach [e] X.env = [(false, eval e X.env)] := by rfl) :
    PI X (.Tuple elts kk tpos) (.Call (.Name "enumerate" p) [e] [] pos) (iEnum K t) := hK ▸ pi_enum hg hm ha hs
theorem k_ienumQ {elts : List Expr} {kk : Nat} (hg : Gl X "enumerate") (hm : X.mg "enumerate" = none) (ha : PA X [e] t) (hs : starEach [e] X.env = [(false, eval e X.env)] := by rfl) :
    PI X (.Tuple elts kk tpos) (.Call (.Name "enumerate" p) [e] [] pos) (iEnumQ K t) := hK ▸ pi_enumQ hg hm ha hs
theorem k_izip {elts : List Expr} {kk : Nat} (hg : Gl X "zip") (hm : X.mg "zip" = none) (ha : PA X [e, e2] t)
    (hs : starEach [e, e2] X.env = (false, eval e X.env) :: starEach [e2] X.env := by rfl) (hpl : (backTo pos (starEach [e2] X.env)).any (·.1) = false := by rfl) :
    PI X (.Tuple elts kk tpos) (.Call (.Name "zip" p) [e, e2] [] pos) (iZip K t) := hK ▸ pi_zip hg hm ha hs hpl
theorem k_gtup {k : Nat} {u : TGs} {n : Nat} (hc : X.calm = true) (h : PGs X es u) (hn : (assignEach es X.env).length = n := by rfl) (hst : (assignEach es X.env).findIdx? (·.1) = none := by rfl) : PG X (.Tuple es k pos) (gTup K n u) := hK ▸ pg_tup hc h hn hst
theorem k_bm0 {T id : String} {r : V → List V → Hp → VK → Prop} (pa : PlainAttrs T) (slot : Slot T name id) (hty : typeOf (.builtin id) = pure (.type "method_descriptor")) (hm : MtR X id r) (ho : PE X o to)
    (hbase : attributeBase o name X.env (eval o X.env) = eval o X.env := by rfl) (hline : (apos.endLine == cpos.line) = true := by rfl) : PE X (.Call (.Attribute o name apos) [] [] cpos) (tBM0 K T r to) := hK ▸ pe_bm0 pa slot hty hm ho hbase hline
theorem k_bm {T id : String} {r : V → List V → Hp → VK → Prop} (pa : PlainAttrs T) (slot : Slot T name id) (hty : typeOf (.builtin id) = pure (.type "method_descriptor")) (hm : MtR X id r) (ho : PE X o to) (ha : PA X (e :: es) t)
    (hbase : attributeBase o name X.env (eval o X.env) = eval o X.env := by rfl)
    (hfew : ((backTo cpos (starEach (e :: es) X.env)).all (fun x => !x.1) && (backToKw cpos (keywordEach [] X.env)).all (fun x => x.1.isSome)
      && decide ((e :: es).length + ([] : List Keyword).length + (if ([] : List Keyword).isEmpty then 0 else 1) < 30)) = true := by rfl)
    (hline : (apos.endLine == cpos.line) = true := by rfl) (hs : starEach (e :: es) X.env = (false, eval e X.env) :: starEach es X.env := by rfl) (hplain : (backTo cpos (starEach es X.env)).any (·.1) = false := by rfl) :
    PE X (.Call (.Attribute o name apos) (e :: es) [] cpos) (tBM K T r to t) := hK ▸ pe_bm pa slot hty hm ho ha hbase hfew hline hs hplain
theorem k_listOwn {n : Nat} {fI fL C : Addr} {spI spL : Sp} (FI : Fn X.prog X.w K X.mg X.base n fI spI []) (FL : Fn X.prog X.w K X.mg X.base n fL spL []) (hc : X.calm = true) (hr : Room (n + 3) X.A) (mI : Meth K C "__iter__" fI) (mL : Meth K C "__len__" fL) :
    CallR X (.type "list") (rListOwn K C spI spL) := by
  subst hK
  exact call_list_own FI FL hc hr mI mL
theorem k_fmtD {g : List Code} (hu : X.A.units + 64 < cLine) (hg : X.A.guards = some g) (he : PE X e te) : PE X (.FormattedValue e 114 none pos) (tFmtD K g te) := hK ▸ pe_fmtD hu hg he
end
end UR

set_option linter.all false
set_option maxRecDepth 100000
set_option maxHeartbeats 4000000
/-! The facts of the head by name; the defs' scopes (printed by gen1.py). -/
namespace U
open PySem PySem.Spec PyProof.Rows L2 UR
abbrev fA (K : PySem.W.Frag) (x : Str) : Addr := He.fAd K (x, none)
abbrev C (K : PySem.W.Frag) : Addr := He.ga K "Sheet"
abbrev mA (K : PySem.W.Frag) (m : Str) : Addr := He.fAd K ("Sheet", some m)
/-- what the head says -/
structure TX (K : PySem.W.Frag) (mg : Str → Option Value) : Prop where
  says : SaysM K
  ns : ∃ h : Heap, K.In h ∧ h.Ns mainGlobals mg
section
variable {K : PySem.W.Frag} {mg : Str → Option Value} (T : TX K mg)
include T
theorem g_is_integer : mg "is_integer" = some (.ref (fA K "is_integer")) := let ⟨_, X, G⟩ := T.ns; He.glo_ok X G (T.says.d.fact 0 (f := .glo "is_integer") rfl)
theorem g_is_count : mg "is_count" = some (.ref (fA K "is_count")) := let ⟨_, X, G⟩ := T.ns; He.glo_ok X G (T.says.d.fact 1 (f := .glo "is_count") rfl)
theorem g_is_name : mg "is_name" = some (.ref (fA K "is_name")) := let ⟨_, X, G⟩ := T.ns; He.glo_ok X G (T.says.d.fact 2 (f := .glo "is_name") rfl)
theorem g_is_list : mg "is_list" = some (.ref (fA K "is_list")) := let ⟨_, X, G⟩ := T.ns; He.glo_ok X G (T.says.d.fact 3 (f := .glo "is_list") rfl)
theorem g_first_wrong_level : mg "first_wrong_level" = some (.ref (fA K "first_wrong_level")) := let ⟨_, X, G⟩ := T.ns; He.glo_ok X G (T.says.d.fact 4 (f := .glo "first_wrong_level") rfl)
theorem g_is_line_beside : mg "is_line_beside" = some (.ref (fA K "is_line_beside")) := let ⟨_, X, G⟩ := T.ns; He.glo_ok X G (T.says.d.fact 5 (f := .glo "is_line_beside") rfl)
theorem g_first_wrong_line : mg "first_wrong_line" = some (.ref (fA K "first_wrong_line")) := let ⟨_, X, G⟩ := T.ns; He.glo_ok X G (T.says.d.fact 6 (f := .glo "first_wrong_line") rfl)
theorem g_want_no_common : mg "want_no_common" = some (.ref (fA K "want_no_common")) := let ⟨_, X, G⟩ := T.ns; He.glo_ok X G (T.says.d.fact 7 (f := .glo "want_no_common") rfl)
theorem g_has_level : mg "has_level" = some (.ref (fA K "has_level")) := let ⟨_, X, G⟩ := T.ns; He.glo_ok X G (T.says.d.fact 8 (f := .glo "has_level") rfl)
theorem g_want_level : mg "want_level" = some (.ref (fA K "want_level")) := let ⟨_, X, G⟩ := T.ns; He.glo_ok X G (T.says.d.fact 9 (f := .glo "want_level") rfl)
theorem g_is_node : mg "is_node" = some (.ref (fA K "is_node")) := let ⟨_, X, G⟩ := T.ns; He.glo_ok X G (T.says.d.fact 10 (f := .glo "is_node") rfl)
theorem g_want_node : mg "want_node" = some (.ref (fA K "want_node")) := let ⟨_, X, G⟩ := T.ns; He.glo_ok X G (T.says.d.fact 11 (f := .glo "want_node") rfl)
theorem g_law_pot : mg "_law_pot" = some (.ref (fA K "_law_pot")) := let ⟨_, X, G⟩ := T.ns; He.glo_ok X G (T.says.d.fact 12 (f := .glo "_law_pot") rfl)
theorem g_law_draw : mg "_law_draw" = some (.ref (fA K "_law_draw")) := let ⟨_, X, G⟩ := T.ns; He.glo_ok X G (T.says.d.fact 13 (f := .glo "_law_draw") rfl)
theorem g_law_pick : mg "_law_pick" = some (.ref (fA K "_law_pick")) := let ⟨_, X, G⟩ := T.ns; He.glo_ok X G (T.says.d.fact 14 (f := .glo "_law_pick") rfl)
theorem g_law_some : mg "_law_some" = some (.ref (fA K "_law_some")) := let ⟨_, X, G⟩ := T.ns; He.glo_ok X G (T.says.d.fact 15 (f := .glo "_law_some") rfl)
theorem g_law_pool : mg "_law_pool" = some (.ref (fA K "_law_pool")) := let ⟨_, X, G⟩ := T.ns; He.glo_ok X G (T.says.d.fact 16 (f := .glo "_law_pool") rfl)
theorem g_law_plan : mg "_law_plan" = some (.ref (fA K "_law_plan")) := let ⟨_, X, G⟩ := T.ns; He.glo_ok X G (T.says.d.fact 17 (f := .glo "_law_plan") rfl)
theorem g_law_all_lines : mg "_law_all_lines" = some (.ref (fA K "_law_all_lines")) := let ⟨_, X, G⟩ := T.ns; He.glo_ok X G (T.says.d.fact 18 (f := .glo "_law_all_lines") rfl)
theorem g_law_sheet : mg "_law_sheet" = some (.ref (fA K "_law_sheet")) := let ⟨_, X, G⟩ := T.ns; He.glo_ok X G (T.says.d.fact 19 (f := .glo "_law_sheet") rfl)
theorem g_law_hanging : mg "_law_hanging" = some (.ref (fA K "_law_hanging")) := let ⟨_, X, G⟩ := T.ns; He.glo_ok X G (T.says.d.fact 20 (f := .glo "_law_hanging") rfl)
theorem g_law_parts : mg "_law_parts" = some (.ref (fA K "_law_parts")) := let ⟨_, X, G⟩ := T.ns; He.glo_ok X G (T.says.d.fact 21 (f := .glo "_law_parts") rfl)
theorem g_law_tells : mg "_law_tells" = some (.ref (fA K "_law_tells")) := let ⟨_, X, G⟩ := T.ns; He.glo_ok X G (T.says.d.fact 22 (f := .glo "_law_tells") rfl)
theorem g_law_told_right : mg "_law_told_right" = some (.ref (fA K "_law_told_right")) := let ⟨_, X, G⟩ := T.ns; He.glo_ok X G (T.says.d.fact 23 (f := .glo "_law_told_right") rfl)
theorem g_law_others : mg "_law_others" = some (.ref (fA K "_law_others")) := let ⟨_, X, G⟩ := T.ns; He.glo_ok X G (T.says.d.fact 24 (f := .glo "_law_others") rfl)
theorem g_law_again_right : mg "_law_again_right" = some (.ref (fA K "_law_again_right")) := let ⟨_, X, G⟩ := T.ns; He.glo_ok X G (T.says.d.fact 25 (f := .glo "_law_again_right") rfl)
theorem g_law_joined_right : mg "_law_joined_right" = some (.ref (fA K "_law_joined_right")) := let ⟨_, X, G⟩ := T.ns; He.glo_ok X G (T.says.d.fact 26 (f := .glo "_law_joined_right") rfl)
theorem g_law_long_right : mg "_law_long_right" = some (.ref (fA K "_law_long_right")) := let ⟨_, X, G⟩ := T.ns; He.glo_ok X G (T.says.d.fact 27 (f := .glo "_law_long_right") rfl)
theorem g_law_right : mg "_law_right" = some (.ref (fA K "_law_right")) := let ⟨_, X, G⟩ := T.ns; He.glo_ok X G (T.says.d.fact 28 (f := .glo "_law_right") rfl)
theorem g_law : mg "law" = some (.ref (fA K "law")) := let ⟨_, X, G⟩ := T.ns; He.glo_ok X G (T.says.d.fact 29 (f := .glo "law") rfl)
theorem b_abs : mg "abs" = none := let ⟨_, X, G⟩ := T.ns; He.free_ok X G (T.says.d.fact 30 (f := .free "abs") rfl)
theorem b_all : mg "all" = none := let ⟨_, X, G⟩ := T.ns; He.free_ok X G (T.says.d.fact 31 (f := .free "all") rfl)
theorem b_bool : mg "bool" = none := let ⟨_, X, G⟩ := T.ns; He.free_ok X G (T.says.d.fact 32 (f := .free "bool") rfl)
theorem b_classmethod : mg "classmethod" = none := let ⟨_, X, G⟩ := T.ns; He.free_ok X G (T.says.d.fact 33 (f := .free "classmethod") rfl)
theorem b_divmod : mg "divmod" = none := let ⟨_, X, G⟩ := T.ns; He.free_ok X G (T.says.d.fact 34 (f := .free "divmod") rfl)
theorem b_enumerate : mg "enumerate" = none := let ⟨_, X, G⟩ := T.ns; He.free_ok X G (T.says.d.fact 35 (f := .free "enumerate") rfl)
theorem b_int : mg "int" = none := let ⟨_, X, G⟩ := T.ns; He.free_ok X G (T.says.d.fact 36 (f := .free "int") rfl)
theorem b_isinstance : mg "isinstance" = none := let ⟨_, X, G⟩ := T.ns; He.free_ok X G (T.says.d.fact 37 (f := .free "isinstance") rfl)
theorem b_iter : mg "iter" = none := let ⟨_, X, G⟩ := T.ns; He.free_ok X G (T.says.d.fact 38 (f := .free "iter") rfl)
theorem b_len : mg "len" = none := let ⟨_, X, G⟩ := T.ns; He.free_ok X G (T.says.d.fact 39 (f := .free "len") rfl)
theorem b_list : mg "list" = none := let ⟨_, X, G⟩ := T.ns; He.free_ok X G (T.says.d.fact 40 (f := .free "list") rfl)
theorem b_max : mg "max" = none := let ⟨_, X, G⟩ := T.ns; He.free_ok X G (T.says.d.fact 41 (f := .free "max") rfl)
theorem b_min : mg "min" = none := let ⟨_, X, G⟩ := T.ns; He.free_ok X G (T.says.d.fact 42 (f := .free "min") rfl)
theorem b_range : mg "range" = none := let ⟨_, X, G⟩ := T.ns; He.free_ok X G (T.says.d.fact 43 (f := .free "range") rfl)
theorem b_repr : mg "repr" = none := let ⟨_, X, G⟩ := T.ns; He.free_ok X G (T.says.d.fact 44 (f := .free "repr") rfl)
theorem b_sorted : mg "sorted" = none := let ⟨_, X, G⟩ := T.ns; He.free_ok X G (T.says.d.fact 45 (f := .free "sorted") rfl)
theorem b_str : mg "str" = none := let ⟨_, X, G⟩ := T.ns; He.free_ok X G (T.says.d.fact 46 (f := .free "str") rfl)
theorem b_sum : mg "sum" = none := let ⟨_, X, G⟩ := T.ns; He.free_ok X G (T.says.d.fact 47 (f := .free "sum") rfl)
theorem b_tuple : mg "tuple" = none := let ⟨_, X, G⟩ := T.ns; He.free_ok X G (T.says.d.fact 48 (f := .free "tuple") rfl)
theorem b_zip : mg "zip" = none := let ⟨_, X, G⟩ := T.ns; He.free_ok X G (T.says.d.fact 49 (f := .free "zip") rfl)
theorem g_Sheet : mg "Sheet" = some (.ref (C K)) := let ⟨_, X, G⟩ := T.ns; He.glo_ok X G (T.says.d.fact 50 (f := .glo "Sheet") rfl)
theorem c_LETTERS : ∃ u, mg "LETTERS" = some u ∧ RelV (.str "abcdefghijklmnopqrstuvwxyz") u := let ⟨_, X, G⟩ := T.ns; let ⟨t, e⟩ := He.str_ok X G (T.says.d.fact 51 (f := .str "LETTERS" "abcdefghijklmnopqrstuvwxyz") rfl); ⟨_, e, ⟨t, rfl⟩⟩
theorem c_DIGITS : ∃ u, mg "DIGITS" = some u ∧ RelV (.str "0123456789") u := let ⟨_, X, G⟩ := T.ns; let ⟨t, e⟩ := He.str_ok X G (T.says.d.fact 52 (f := .str "DIGITS" "0123456789") rfl); ⟨_, e, ⟨t, rfl⟩⟩
theorem c_LONGEST_NAME : ∃ u, mg "LONGEST_NAME" = some u ∧ RelV (.int 6) u := let ⟨_, X, G⟩ := T.ns; let ⟨t, e⟩ := He.int_ok X G (T.says.d.fact 53 (f := .int "LONGEST_NAME" 6) rfl); ⟨_, e, ⟨t, rfl⟩⟩
theorem cls : Cls K (C K) := He.cls_ok (T.says.d.fact 54 (f := .cls "Sheet") rfl)
theorem mk : Mk K (C K) (mA K "__init__") := He.mkr_ok (T.says.d.fact 55 (f := .mkr "Sheet") rfl)
theorem na_own_levels : NoAttr K (C K) "own_levels" := He.noat_ok (T.says.d.fact 56 (f := .noat "Sheet" "own_levels") rfl)
theorem na_own_nodes : NoAttr K (C K) "own_nodes" := He.noat_ok (T.says.d.fact 57 (f := .noat "Sheet" "own_nodes") rfl)
theorem na_own_numbers : NoAttr K (C K) "own_numbers" := He.noat_ok (T.says.d.fact 58 (f := .noat "Sheet" "own_numbers") rfl)
theorem na_own_lines : NoAttr K (C K) "own_lines" := He.noat_ok (T.says.d.fact 59 (f := .noat "Sheet" "own_lines") rfl)
theorem na_own_above : NoAttr K (C K) "own_above" := He.noat_ok (T.says.d.fact 60 (f := .noat "Sheet" "own_above") rfl)
theorem na_own_below : NoAttr K (C K) "own_below" := He.noat_ok (T.says.d.fact 61 (f := .noat "Sheet" "own_below") rfl)
theorem m_S_want_limits : Meth K (C K) "want_limits" (mA K "want_limits") := He.meth_ok (T.says.d.fact 62 (f := .meth "Sheet" "want_limits") rfl)
theorem m_S_can_be_line : Meth K (C K) "can_be_line" (mA K "can_be_line") := He.meth_ok (T.says.d.fact 63 (f := .meth "Sheet" "can_be_line") rfl)
theorem m_S_levels : Meth K (C K) "levels" (mA K "levels") := He.meth_ok (T.says.d.fact 64 (f := .meth "Sheet" "levels") rfl)
theorem m_S_level : Meth K (C K) "level" (mA K "level") := He.meth_ok (T.says.d.fact 65 (f := .meth "Sheet" "level") rfl)
theorem m_S_lines : Meth K (C K) "lines" (mA K "lines") := He.meth_ok (T.says.d.fact 66 (f := .meth "Sheet" "lines") rfl)
theorem m_S_gap : Meth K (C K) "gap" (mA K "gap") := He.meth_ok (T.says.d.fact 67 (f := .meth "Sheet" "gap") rfl)
theorem m_S_level_of : Meth K (C K) "level_of" (mA K "level_of") := He.meth_ok (T.says.d.fact 68 (f := .meth "Sheet" "level_of") rfl)
theorem m_S_above : Meth K (C K) "above" (mA K "above") := He.meth_ok (T.says.d.fact 69 (f := .meth "Sheet" "above") rfl)
theorem m_S_below : Meth K (C K) "below" (mA K "below") := He.meth_ok (T.says.d.fact 70 (f := .meth "Sheet" "below") rfl)
theorem m_S_pairs : Meth K (C K) "pairs" (mA K "pairs") := He.meth_ok (T.says.d.fact 71 (f := .meth "Sheet" "pairs") rfl)
theorem m_S_hanging : Meth K (C K) "hanging" (mA K "hanging") := He.meth_ok (T.says.d.fact 72 (f := .meth "Sheet" "hanging") rfl)
theorem m_S_parts : Meth K (C K) "parts" (mA K "parts") := He.meth_ok (T.says.d.fact 73 (f := .meth "Sheet" "parts") rfl)
theorem m_S_len : Meth K (C K) "__len__" (mA K "__len__") := He.meth_ok (T.says.d.fact 74 (f := .meth "Sheet" "__len__") rfl)
theorem m_S_contains : Meth K (C K) "__contains__" (mA K "__contains__") := He.meth_ok (T.says.d.fact 75 (f := .meth "Sheet" "__contains__") rfl)
theorem m_S_iter : Meth K (C K) "__iter__" (mA K "__iter__") := He.meth_ok (T.says.d.fact 76 (f := .meth "Sheet" "__iter__") rfl)
theorem m_S_eq : Meth K (C K) "__eq__" (mA K "__eq__") := He.meth_ok (T.says.d.fact 77 (f := .meth "Sheet" "__eq__") rfl)
theorem m_S_repr : Meth K (C K) "__repr__" (mA K "__repr__") := He.meth_ok (T.says.d.fact 78 (f := .meth "Sheet" "__repr__") rfl)
theorem m_S_add : Meth K (C K) "__add__" (mA K "__add__") := He.meth_ok (T.says.d.fact 79 (f := .meth "Sheet" "__add__") rfl)
theorem m_S_sub : Meth K (C K) "__sub__" (mA K "__sub__") := He.meth_ok (T.says.d.fact 80 (f := .meth "Sheet" "__sub__") rfl)
theorem m_S_invert : Meth K (C K) "__invert__" (mA K "__invert__") := He.meth_ok (T.says.d.fact 81 (f := .meth "Sheet" "__invert__") rfl)
theorem m_S_or : Meth K (C K) "__or__" (mA K "__or__") := He.meth_ok (T.says.d.fact 82 (f := .meth "Sheet" "__or__") rfl)
theorem m_S_rshift : Meth K (C K) "__rshift__" (mA K "__rshift__") := He.meth_ok (T.says.d.fact 83 (f := .meth "Sheet" "__rshift__") rfl)
theorem m_S_with_node : Meth K (C K) "with_node" (mA K "with_node") := He.meth_ok (T.says.d.fact 84 (f := .meth "Sheet" "with_node") rfl)
theorem m_S_without_node : Meth K (C K) "without_node" (mA K "without_node") := He.meth_ok (T.says.d.fact 85 (f := .meth "Sheet" "without_node") rfl)
theorem m_S_with_level : Meth K (C K) "with_level" (mA K "with_level") := He.meth_ok (T.says.d.fact 86 (f := .meth "Sheet" "with_level") rfl)
theorem m_S_joined : Meth K (C K) "joined" (mA K "joined") := He.meth_ok (T.says.d.fact 87 (f := .meth "Sheet" "joined") rfl)
theorem dd_is_integer : ∃ fd, FunD K "is_integer" "is_integer" (defArgs s_is_integer) (defBody s_is_integer) (defScope s_is_integer) [] [] (fA K "is_integer") fd := T.says.d.def_ 0 (d := d_is_integer) rfl
theorem kp_is_integer : PySem.W.keepIn K (.ref (fA K "is_integer")) = true := let ⟨_, F⟩ := dd_is_integer T; F.kp
theorem dd_is_count : ∃ fd, FunD K "is_count" "is_count" (defArgs s_is_count) (defBody s_is_count) (defScope s_is_count) [] [] (fA K "is_count") fd := T.says.d.def_ 1 (d := d_is_count) rfl
theorem kp_is_count : PySem.W.keepIn K (.ref (fA K "is_count")) = true := let ⟨_, F⟩ := dd_is_count T; F.kp
theorem dd_is_name : ∃ fd, FunD K "is_name" "is_name" (defArgs s_is_name) (defBody s_is_name) (defScope s_is_name) [] [] (fA K "is_name") fd := T.says.d.def_ 2 (d := d_is_name) rfl
theorem kp_is_name : PySem.W.keepIn K (.ref (fA K "is_name")) = true := let ⟨_, F⟩ := dd_is_name T; F.kp
theorem dd_is_list : ∃ fd, FunD K "is_list" "is_list" (defArgs s_is_list) (defBody s_is_list) (defScope s_is_list) [] [] (fA K "is_list") fd := T.says.d.def_ 3 (d := d_is_list) rfl
theorem kp_is_list : PySem.W.keepIn K (.ref (fA K "is_list")) = true := let ⟨_, F⟩ := dd_is_list T; F.kp
theorem dd_first_wrong_level : ∃ fd, FunD K "first_wrong_level" "first_wrong_level" (defArgs s_first_wrong_level) (defBody s_first_wrong_level) (defScope s_first_wrong_level) [] [] (fA K "first_wrong_level") fd := T.says.d.def_ 4 (d := d_first_wrong_level) rfl
theorem kp_first_wrong_level : PySem.W.keepIn K (.ref (fA K "first_wrong_level")) = true := let ⟨_, F⟩ := dd_first_wrong_level T; F.kp
theorem dd_is_line_beside : ∃ fd, FunD K "is_line_beside" "is_line_beside" (defArgs s_is_line_beside) (defBody s_is_line_beside) (defScope s_is_line_beside) [] [] (fA K "is_line_beside") fd := T.says.d.def_ 5 (d := d_is_line_beside) rfl
theorem kp_is_line_beside : PySem.W.keepIn K (.ref (fA K "is_line_beside")) = true := let ⟨_, F⟩ := dd_is_line_beside T; F.kp
theorem dd_first_wrong_line : ∃ fd, FunD K "first_wrong_line" "first_wrong_line" (defArgs s_first_wrong_line) (defBody s_first_wrong_line) (defScope s_first_wrong_line) [] [] (fA K "first_wrong_line") fd := T.says.d.def_ 6 (d := d_first_wrong_line) rfl
theorem kp_first_wrong_line : PySem.W.keepIn K (.ref (fA K "first_wrong_line")) = true := let ⟨_, F⟩ := dd_first_wrong_line T; F.kp
theorem dd_S_init : ∃ fd, FunD K "__init__" "Sheet.__init__" (defArgs S_init) (defBody S_init) (defScope S_init) [.ref (He.dflAt ("Sheet", some "__init__") 0 K)] [] (mA K "__init__") fd := T.says.d.def_ 7 (d := d_S_init) rfl
theorem dd_S_want_limits : ∃ fd, FunD K "want_limits" "Sheet.want_limits" (defArgs S_want_limits) (defBody S_want_limits) (defScope S_want_limits) [] [] (mA K "want_limits") fd := T.says.d.def_ 8 (d := d_S_want_limits) rfl
theorem dd_S_can_be_line : ∃ fd, FunD K "can_be_line" "Sheet.can_be_line" (defArgs S_can_be_line) (defBody S_can_be_line) (defScope S_can_be_line) [] [] (mA K "can_be_line") fd := T.says.d.def_ 9 (d := d_S_can_be_line) rfl
theorem dd_S_levels : ∃ fd, FunD K "levels" "Sheet.levels" (defArgs S_levels) (defBody S_levels) (defScope S_levels) [] [] (mA K "levels") fd := T.says.d.def_ 10 (d := d_S_levels) rfl
theorem dd_S_level : ∃ fd, FunD K "level" "Sheet.level" (defArgs S_level) (defBody S_level) (defScope S_level) [] [] (mA K "level") fd := T.says.d.def_ 11 (d := d_S_level) rfl
theorem dd_S_lines : ∃ fd, FunD K "lines" "Sheet.lines" (defArgs S_lines) (defBody S_lines) (defScope S_lines) [] [] (mA K "lines") fd := T.says.d.def_ 12 (d := d_S_lines) rfl
theorem dd_S_gap : ∃ fd, FunD K "gap" "Sheet.gap" (defArgs S_gap) (defBody S_gap) (defScope S_gap) [] [] (mA K "gap") fd := T.says.d.def_ 13 (d := d_S_gap) rfl
theorem dd_S_level_of : ∃ fd, FunD K "level_of" "Sheet.level_of" (defArgs S_level_of) (defBody S_level_of) (defScope S_level_of) [] [] (mA K "level_of") fd := T.says.d.def_ 14 (d := d_S_level_of) rfl
theorem dd_S_above : ∃ fd, FunD K "above" "Sheet.above" (defArgs S_above) (defBody S_above) (defScope S_above) [] [] (mA K "above") fd := T.says.d.def_ 15 (d := d_S_above) rfl
theorem dd_S_below : ∃ fd, FunD K "below" "Sheet.below" (defArgs S_below) (defBody S_below) (defScope S_below) [] [] (mA K "below") fd := T.says.d.def_ 16 (d := d_S_below) rfl
theorem dd_S_pairs : ∃ fd, FunD K "pairs" "Sheet.pairs" (defArgs S_pairs) (defBody S_pairs) (defScope S_pairs) [] [] (mA K "pairs") fd := T.says.d.def_ 17 (d := d_S_pairs) rfl
theorem dd_S_hanging : ∃ fd, FunD K "hanging" "Sheet.hanging" (defArgs S_hanging) (defBody S_hanging) (defScope S_hanging) [] [] (mA K "hanging") fd := T.says.d.def_ 18 (d := d_S_hanging) rfl
theorem dd_S_parts : ∃ fd, FunD K "parts" "Sheet.parts" (defArgs S_parts) (defBody S_parts) (defScope S_parts) [] [] (mA K "parts") fd := T.says.d.def_ 19 (d := d_S_parts) rfl
theorem dd_S_len : ∃ fd, FunD K "__len__" "Sheet.__len__" (defArgs S_len) (defBody S_len) (defScope S_len) [] [] (mA K "__len__") fd := T.says.d.def_ 20 (d := d_S_len) rfl
theorem dd_S_contains : ∃ fd, FunD K "__contains__" "Sheet.__contains__" (defArgs S_contains) (defBody S_contains) (defScope S_contains) [] [] (mA K "__contains__") fd := T.says.d.def_ 21 (d := d_S_contains) rfl
theorem dd_S_iter : ∃ fd, FunD K "__iter__" "Sheet.__iter__" (defArgs S_iter) (defBody S_iter) (defScope S_iter) [] [] (mA K "__iter__") fd := T.says.d.def_ 22 (d := d_S_iter) rfl
theorem dd_S_eq : ∃ fd, FunD K "__eq__" "Sheet.__eq__" (defArgs S_eq) (defBody S_eq) (defScope S_eq) [] [] (mA K "__eq__") fd := T.says.d.def_ 23 (d := d_S_eq) rfl
theorem dd_S_repr : ∃ fd, FunD K "__repr__" "Sheet.__repr__" (defArgs S_repr) (defBody S_repr) (defScope S_repr) [] [] (mA K "__repr__") fd := T.says.d.def_ 24 (d := d_S_repr) rfl
theorem dd_S_add : ∃ fd, FunD K "__add__" "Sheet.__add__" (defArgs S_add) (defBody S_add) (defScope S_add) [] [] (mA K "__add__") fd := T.says.d.def_ 25 (d := d_S_add) rfl
theorem dd_S_sub : ∃ fd, FunD K "__sub__" "Sheet.__sub__" (defArgs S_sub) (defBody S_sub) (defScope S_sub) [] [] (mA K "__sub__") fd := T.says.d.def_ 26 (d := d_S_sub) rfl
theorem dd_S_invert : ∃ fd, FunD K "__invert__" "Sheet.__invert__" (defArgs S_invert) (defBody S_invert) (defScope S_invert) [] [] (mA K "__invert__") fd := T.says.d.def_ 27 (d := d_S_invert) rfl
theorem dd_S_or : ∃ fd, FunD K "__or__" "Sheet.__or__" (defArgs S_or) (defBody S_or) (defScope S_or) [] [] (mA K "__or__") fd := T.says.d.def_ 28 (d := d_S_or) rfl
theorem dd_S_rshift : ∃ fd, FunD K "__rshift__" "Sheet.__rshift__" (defArgs S_rshift) (defBody S_rshift) (defScope S_rshift) [] [] (mA K "__rshift__") fd := T.says.d.def_ 29 (d := d_S_rshift) rfl
theorem dd_S_with_node : ∃ fd, FunD K "with_node" "Sheet.with_node" (defArgs S_with_node) (defBody S_with_node) (defScope S_with_node) [] [] (mA K "with_node") fd := T.says.d.def_ 30 (d := d_S_with_node) rfl
theorem dd_S_without_node : ∃ fd, FunD K "without_node" "Sheet.without_node" (defArgs S_without_node) (defBody S_without_node) (defScope S_without_node) [] [] (mA K "without_node") fd := T.says.d.def_ 31 (d := d_S_without_node) rfl
theorem dd_S_with_level : ∃ fd, FunD K "with_level" "Sheet.with_level" (defArgs S_with_level) (defBody S_with_level) (defScope S_with_level) [] [] (mA K "with_level") fd := T.says.d.def_ 32 (d := d_S_with_level) rfl
theorem dd_S_joined : ∃ fd, FunD K "joined" "Sheet.joined" (defArgs S_joined) (defBody S_joined) (defScope S_joined) [] [] (mA K "joined") fd := T.says.d.def_ 33 (d := d_S_joined) rfl
theorem dd_want_no_common : ∃ fd, FunD K "want_no_common" "want_no_common" (defArgs s_want_no_common) (defBody s_want_no_common) (defScope s_want_no_common) [] [] (fA K "want_no_common") fd := T.says.d.def_ 34 (d := d_want_no_common) rfl
theorem kp_want_no_common : PySem.W.keepIn K (.ref (fA K "want_no_common")) = true := let ⟨_, F⟩ := dd_want_no_common T; F.kp
theorem dd_has_level : ∃ fd, FunD K "has_level" "has_level" (defArgs s_has_level) (defBody s_has_level) (defScope s_has_level) [] [] (fA K "has_level") fd := T.says.d.def_ 35 (d := d_has_level) rfl
theorem kp_has_level : PySem.W.keepIn K (.ref (fA K "has_level")) = true := let ⟨_, F⟩ := dd_has_level T; F.kp
theorem dd_want_level : ∃ fd, FunD K "want_level" "want_level" (defArgs s_want_level) (defBody s_want_level) (defScope s_want_level) [] [] (fA K "want_level") fd := T.says.d.def_ 36 (d := d_want_level) rfl
theorem kp_want_level : PySem.W.keepIn K (.ref (fA K "want_level")) = true := let ⟨_, F⟩ := dd_want_level T; F.kp
theorem dd_is_node : ∃ fd, FunD K "is_node" "is_node" (defArgs s_is_node) (defBody s_is_node) (defScope s_is_node) [] [] (fA K "is_node") fd := T.says.d.def_ 37 (d := d_is_node) rfl
theorem kp_is_node : PySem.W.keepIn K (.ref (fA K "is_node")) = true := let ⟨_, F⟩ := dd_is_node T; F.kp
theorem dd_want_node : ∃ fd, FunD K "want_node" "want_node" (defArgs s_want_node) (defBody s_want_node) (defScope s_want_node) [] [] (fA K "want_node") fd := T.says.d.def_ 38 (d := d_want_node) rfl
theorem kp_want_node : PySem.W.keepIn K (.ref (fA K "want_node")) = true := let ⟨_, F⟩ := dd_want_node T; F.kp
theorem dd_law_pot : ∃ fd, FunD K "_law_pot" "_law_pot" (defArgs s_law_pot) (defBody s_law_pot) (defScope s_law_pot) [] [] (fA K "_law_pot") fd := T.says.d.def_ 39 (d := d_law_pot) rfl
theorem kp_law_pot : PySem.W.keepIn K (.ref (fA K "_law_pot")) = true := let ⟨_, F⟩ := dd_law_pot T; F.kp
theorem dd_law_draw : ∃ fd, FunD K "_law_draw" "_law_draw" (defArgs s_law_draw) (defBody s_law_draw) (defScope s_law_draw) [] [] (fA K "_law_draw") fd := T.says.d.def_ 40 (d := d_law_draw) rfl
theorem kp_law_draw : PySem.W.keepIn K (.ref (fA K "_law_draw")) = true := let ⟨_, F⟩ := dd_law_draw T; F.kp
theorem dd_law_pick : ∃ fd, FunD K "_law_pick" "_law_pick" (defArgs s_law_pick) (defBody s_law_pick) (defScope s_law_pick) [] [] (fA K "_law_pick") fd := T.says.d.def_ 41 (d := d_law_pick) rfl
theorem kp_law_pick : PySem.W.keepIn K (.ref (fA K "_law_pick")) = true := let ⟨_, F⟩ := dd_law_pick T; F.kp
theorem dd_law_some : ∃ fd, FunD K "_law_some" "_law_some" (defArgs s_law_some) (defBody s_law_some) (defScope s_law_some) [] [] (fA K "_law_some") fd := T.says.d.def_ 42 (d := d_law_some) rfl
theorem kp_law_some : PySem.W.keepIn K (.ref (fA K "_law_some")) = true := let ⟨_, F⟩ := dd_law_some T; F.kp
theorem dd_law_pool : ∃ fd, FunD K "_law_pool" "_law_pool" (defArgs s_law_pool) (defBody s_law_pool) (defScope s_law_pool) [] [] (fA K "_law_pool") fd := T.says.d.def_ 43 (d := d_law_pool) rfl
theorem kp_law_pool : PySem.W.keepIn K (.ref (fA K "_law_pool")) = true := let ⟨_, F⟩ := dd_law_pool T; F.kp
theorem dd_law_plan : ∃ fd, FunD K "_law_plan" "_law_plan" (defArgs s_law_plan) (defBody s_law_plan) (defScope s_law_plan) [] [] (fA K "_law_plan") fd := T.says.d.def_ 44 (d := d_law_plan) rfl
theorem kp_law_plan : PySem.W.keepIn K (.ref (fA K "_law_plan")) = true := let ⟨_, F⟩ := dd_law_plan T; F.kp
theorem dd_law_all_lines : ∃ fd, FunD K "_law_all_lines" "_law_all_lines" (defArgs s_law_all_lines) (defBody s_law_all_lines) (defScope s_law_all_lines) [] [] (fA K "_law_all_lines") fd := T.says.d.def_ 45 (d := d_law_all_lines) rfl
theorem kp_law_all_lines : PySem.W.keepIn K (.ref (fA K "_law_all_lines")) = true := let ⟨_, F⟩ := dd_law_all_lines T; F.kp
theorem dd_law_sheet : ∃ fd, FunD K "_law_sheet" "_law_sheet" (defArgs s_law_sheet) (defBody s_law_sheet) (defScope s_law_sheet) [] [] (fA K "_law_sheet") fd := T.says.d.def_ 46 (d := d_law_sheet) rfl
theorem kp_law_sheet : PySem.W.keepIn K (.ref (fA K "_law_sheet")) = true := let ⟨_, F⟩ := dd_law_sheet T; F.kp
theorem dd_law_hanging : ∃ fd, FunD K "_law_hanging" "_law_hanging" (defArgs s_law_hanging) (defBody s_law_hanging) (defScope s_law_hanging) [] [] (fA K "_law_hanging") fd := T.says.d.def_ 47 (d := d_law_hanging) rfl
theorem kp_law_hanging : PySem.W.keepIn K (.ref (fA K "_law_hanging")) = true := let ⟨_, F⟩ := dd_law_hanging T; F.kp
theorem dd_law_parts : ∃ fd, FunD K "_law_parts" "_law_parts" (defArgs s_law_parts) (defBody s_law_parts) (defScope s_law_parts) [] [] (fA K "_law_parts") fd := T.says.d.def_ 48 (d := d_law_parts) rfl
theorem kp_law_parts : PySem.W.keepIn K (.ref (fA K "_law_parts")) = true := let ⟨_, F⟩ := dd_law_parts T; F.kp
theorem dd_law_tells : ∃ fd, FunD K "_law_tells" "_law_tells" (defArgs s_law_tells) (defBody s_law_tells) (defScope s_law_tells) [] [] (fA K "_law_tells") fd := T.says.d.def_ 49 (d := d_law_tells) rfl
theorem kp_law_tells : PySem.W.keepIn K (.ref (fA K "_law_tells")) = true := let ⟨_, F⟩ := dd_law_tells T; F.kp
theorem dd_law_told_right : ∃ fd, FunD K "_law_told_right" "_law_told_right" (defArgs s_law_told_right) (defBody s_law_told_right) (defScope s_law_told_right) [] [] (fA K "_law_told_right") fd := T.says.d.def_ 50 (d := d_law_told_right) rfl
theorem kp_law_told_right : PySem.W.keepIn K (.ref (fA K "_law_told_right")) = true := let ⟨_, F⟩ := dd_law_told_right T; F.kp
theorem dd_law_others : ∃ fd, FunD K "_law_others" "_law_others" (defArgs s_law_others) (defBody s_law_others) (defScope s_law_others) [] [] (fA K "_law_others") fd := T.says.d.def_ 51 (d := d_law_others) rfl
theorem kp_law_others : PySem.W.keepIn K (.ref (fA K "_law_others")) = true := let ⟨_, F⟩ := dd_law_others T; F.kp
theorem dd_law_again_right : ∃ fd, FunD K "_law_again_right" "_law_again_right" (defArgs s_law_again_right) (defBody s_law_again_right) (defScope s_law_again_right) [] [] (fA K "_law_again_right") fd := T.says.d.def_ 52 (d := d_law_again_right) rfl
theorem kp_law_again_right : PySem.W.keepIn K (.ref (fA K "_law_again_right")) = true := let ⟨_, F⟩ := dd_law_again_right T; F.kp
theorem dd_law_joined_right : ∃ fd, FunD K "_law_joined_right" "_law_joined_right" (defArgs s_law_joined_right) (defBody s_law_joined_right) (defScope s_law_joined_right) [] [] (fA K "_law_joined_right") fd := T.says.d.def_ 53 (d := d_law_joined_right) rfl
theorem kp_law_joined_right : PySem.W.keepIn K (.ref (fA K "_law_joined_right")) = true := let ⟨_, F⟩ := dd_law_joined_right T; F.kp
theorem dd_law_long_right : ∃ fd, FunD K "_law_long_right" "_law_long_right" (defArgs s_law_long_right) (defBody s_law_long_right) (defScope s_law_long_right) [] [] (fA K "_law_long_right") fd := T.says.d.def_ 54 (d := d_law_long_right) rfl
theorem kp_law_long_right : PySem.W.keepIn K (.ref (fA K "_law_long_right")) = true := let ⟨_, F⟩ := dd_law_long_right T; F.kp
theorem dd_law_right : ∃ fd, FunD K "_law_right" "_law_right" (defArgs s_law_right) (defBody s_law_right) (defScope s_law_right) [] [] (fA K "_law_right") fd := T.says.d.def_ 55 (d := d_law_right) rfl
theorem kp_law_right : PySem.W.keepIn K (.ref (fA K "_law_right")) = true := let ⟨_, F⟩ := dd_law_right T; F.kp
theorem dd_law : ∃ fd, FunD K "law" "law" (defArgs s_law) (defBody s_law) (defScope s_law) [] [] (fA K "law") fd := T.says.d.def_ 56 (d := d_law) rfl
theorem kp_law : PySem.W.keepIn K (.ref (fA K "law")) = true := let ⟨_, F⟩ := dd_law T; F.kp
theorem x_all : (He.conB K "Sheet" "MOST_LEVELS" (.int 12) = true ∧ He.conB K "Sheet" "MOST_NODES" (.int 18) = true ∧ He.conB K "Sheet" "MOST_LINES" (.int 200) = true) ∧ tup0B K (He.dflAt ("Sheet", some "__init__") 0 K) = true ∧ (x9 K).all id = true := by
  have h := T.says.x
  unfold extra at h
  obtain ⟨h1, h⟩ := He.ba h
  obtain ⟨h2, h⟩ := He.ba h
  obtain ⟨h3, h⟩ := He.ba h
  obtain ⟨h4, h5⟩ := He.ba h
  exact ⟨⟨h1, h2, h3⟩, h4, h5⟩
theorem x_at {b : Bool} (h : b ∈ x9 K) : b = true := List.all_eq_true.mp (x_all T).2.2 b h
theorem con_levels : ∃ u, Con K (C K) "MOST_LEVELS" (.int 12) u := He.conB_ok (x_all T).1.1
theorem con_nodes : ∃ u, Con K (C K) "MOST_NODES" (.int 18) u := He.conB_ok (x_all T).1.2.1
theorem con_lines : ∃ u, Con K (C K) "MOST_LINES" (.int 200) u := He.conB_ok (x_all T).1.2.2
theorem x_first : PySem.W.selfFirst K (C K) = true := x_at T (by unfold x9; simp)
theorem x_ne : PySem.W.findIn K (.ref (C K)) "__ne__" = some (some (.builtin "object.__ne__")) := He.eqO_ok (x_at T (by unfold x9; simp))
theorem x_mo : PySem.W.mroIn K (C K) (.type "object") = some true := of_decide_eq_true (x_at T (by unfold x9; simp))
theorem x_radd : PySem.W.findIn K (.ref (C K)) "__radd__" = some (some (.ref (He.ma K (C K) "__radd__"))) := He.eqO_ok (x_at T (by unfold x9; simp))
theorem x_rsub : PySem.W.findIn K (.ref (C K)) "__rsub__" = some none := He.eqO_ok (x_at T (by unfold x9; simp))
theorem x_sub : PySem.W.subIn K (.type "tuple") (.ref (C K)) = some false := of_decide_eq_true (x_at T (by unfold x9; simp))
theorem x_class : PySem.W.findIn K (.ref (C K)) "__class__" = some (some (.builtin "object.__class__")) := He.eqO_ok (x_at T (by unfold x9; simp))
theorem x_get : PySem.W.specialIn K (.builtin "object.__class__") "__get__" = some (some (.builtin "getset_descriptor.__get__")) := He.eqO_ok (x_at T (by unfold x9; simp))
theorem x_takes : PySem.W.takesIn K (.builtin "object.__class__") = some true := of_decide_eq_true (x_at T (by unfold x9; simp))
omit T
theorem tup_add : PySem.W.findIn K (.type "tuple") "__add__" = some (some (.builtin "tuple.__add__")) := by kernel_rfl
theorem tup_radd : PySem.W.findIn K (.type "tuple") "__radd__" = some none := by kernel_rfl
theorem tup_sub : PySem.W.findIn K (.type "tuple") "__sub__" = some none := by kernel_rfl
theorem tup_rsub : PySem.W.findIn K (.type "tuple") "__rsub__" = some none := by kernel_rfl
/-- an instance's type -/
theorem TX.tyIns (T : TX K mg) {H : Hp} {a dx : Addr} {fs : List (Str × V)} (e : H a = some (.ins (C K) dx fs)) : TyX K H (.ref a) (.ref (C K)) := .base (.ins e (cls T) (x_class T) (x_get T) (x_takes T) (x_mo T))
end
theorem fnD {P : Program} {w : World} {K : PySem.W.Frag} {mg : Str → Option Value} {base : Heap} {x qual : Str} {params : Arguments} {body : List Stmt} {scope : Scope} {kws : List (Str × V)} {f : Addr} {fd : FuncData} {N ps : List Str} {k : Nat} {sp : Sp}
    (F : FunD K x qual params body scope [] kws f fd) (b : Binds K fd ps []) (S : FnScope N ps scope) (len : ∀ vs H Q E, sp vs H Q E → vs.length = ps.length)
    (hbody : ∀ (cdv : Value) (A : Around) (outer : List Env) (s : Shared) (H : Hp) (vs : List V) (Q : VK) (E : XK), Room k (A.deeper (envOfC qual scope s.heap.objs.size f cdv)) → sp vs H Q E →
      ∃ t, PSs (cxOf CX0 P w K mg base N qual scope f cdv A outer s H E).nox body t ∧ t { nx := fun _ H' => Q .non H', rt := Q } (start N vs) H) : Fn P w K mg base (k + 1) f sp [] := by
  refine ⟨_, ps, [], F.ok S len fun cdv A outer s H vs Q E hr h => ?_, b, .nil⟩
  obtain ⟨t, h1, h2⟩ := hbody cdv A outer s H vs Q E hr h
  exact ⟨t, h1.nox, h2⟩
theorem hu65_of {A : Around} {k : Nat} (hr : Room k A) : A.units + 65 < cLine := by have := hr.un; omega
/-- a look at the names of a def's scope -/
theorem fnScope_by2 {N P : List Str} {sc : Scope} (h : C8.scC N P sc = true) : FnScope N P sc := C8.fnScope_by h
theorem sc_is_integer : FnScope ["value"] ["value"] (defScope s_is_integer) := fnScope_by2 (by decide +kernel)
theorem sc_is_count : FnScope ["value"] ["value"] (defScope s_is_count) := fnScope_by2 (by decide +kernel)
theorem sc_is_name : FnScope ["value", "sign"] ["value"] (defScope s_is_name) := fnScope_by2 (by decide +kernel)
theorem sc_is_list : FnScope ["value"] ["value"] (defScope s_is_list) := fnScope_by2 (by decide +kernel)
theorem sc_first_wrong_level : FnScope ["levels", "known", "position", "names", "name"] ["levels"] (defScope s_first_wrong_level) := fnScope_by2 (by decide +kernel)
theorem sc_is_line_beside : FnScope ["numbers", "value", "node", "low", "high"] ["numbers", "value"] (defScope s_is_line_beside) := fnScope_by2 (by decide +kernel)
theorem sc_first_wrong_line : FnScope ["numbers", "lines", "known", "position", "line"] ["numbers", "lines"] (defScope s_first_wrong_line) := fnScope_by2 (by decide +kernel)
theorem sc_S_init : FnScope ["self", "levels", "lines", "position", "names", "node", "number", "above", "below", "low", "high"] ["self", "levels", "lines"] (defScope S_init) := fnScope_by2 (by decide +kernel)
theorem sc_S_want_limits : FnScope ["self", "names"] ["self"] (defScope S_want_limits) := fnScope_by2 (by decide +kernel)
theorem sc_S_can_be_line : FnScope ["self", "value"] ["self", "value"] (defScope S_can_be_line) := fnScope_by2 (by decide +kernel)
theorem sc_S_levels : FnScope ["self", "names"] ["self"] (defScope S_levels) := fnScope_by2 (by decide +kernel)
theorem sc_S_level : FnScope ["self", "number"] ["self", "number"] (defScope S_level) := fnScope_by2 (by decide +kernel)
theorem sc_S_lines : FnScope ["self"] ["self"] (defScope S_lines) := fnScope_by2 (by decide +kernel)
theorem sc_S_gap : FnScope ["self", "number", "line"] ["self", "number"] (defScope S_gap) := fnScope_by2 (by decide +kernel)
theorem sc_S_level_of : FnScope ["self", "node"] ["self", "node"] (defScope S_level_of) := fnScope_by2 (by decide +kernel)
theorem sc_S_above : FnScope ["self", "node"] ["self", "node"] (defScope S_above) := fnScope_by2 (by decide +kernel)
theorem sc_S_below : FnScope ["self", "node"] ["self", "node"] (defScope S_below) := fnScope_by2 (by decide +kernel)
theorem sc_S_pairs : FnScope ["self", "found", "names", "one", "other"] ["self"] (defScope S_pairs) := fnScope_by2 (by decide +kernel)
theorem sc_S_hanging : FnScope ["self", "first", "found", "at", "near", "node"] ["self", "first"] (defScope S_hanging) := fnScope_by2 (by decide +kernel)
theorem sc_S_parts : FnScope ["self", "found", "known", "node", "some", "other", "levels", "one", "names", "line"] ["self"] (defScope S_parts) := fnScope_by2 (by decide +kernel)
theorem sc_S_len : FnScope ["self"] ["self"] (defScope S_len) := fnScope_by2 (by decide +kernel)
theorem sc_S_contains : FnScope ["self", "value"] ["self", "value"] (defScope S_contains) := fnScope_by2 (by decide +kernel)
theorem sc_S_iter : FnScope ["self"] ["self"] (defScope S_iter) := fnScope_by2 (by decide +kernel)
theorem sc_S_eq : FnScope ["self", "other"] ["self", "other"] (defScope S_eq) := fnScope_by2 (by decide +kernel)
theorem sc_S_repr : FnScope ["self"] ["self"] (defScope S_repr) := fnScope_by2 (by decide +kernel)
theorem sc_S_add : FnScope ["self", "line"] ["self", "line"] (defScope S_add) := fnScope_by2 (by decide +kernel)
theorem sc_S_sub : FnScope ["self", "line", "other"] ["self", "line"] (defScope S_sub) := fnScope_by2 (by decide +kernel)
theorem sc_S_invert : FnScope ["self", "low", "high"] ["self"] (defScope S_invert) := fnScope_by2 (by decide +kernel)
theorem sc_S_or : FnScope ["self", "other", "levels", "near", "far"] ["self", "other"] (defScope S_or) := fnScope_by2 (by decide +kernel)
theorem sc_S_rshift : FnScope ["self", "other"] ["self", "other"] (defScope S_rshift) := fnScope_by2 (by decide +kernel)
theorem sc_S_with_node : FnScope ["self", "level", "name", "levels"] ["self", "level", "name"] (defScope S_with_node) := fnScope_by2 (by decide +kernel)
theorem sc_S_without_node : FnScope ["self", "node", "levels", "other", "names", "line"] ["self", "node"] (defScope S_without_node) := fnScope_by2 (by decide +kernel)
theorem sc_S_with_level : FnScope ["self"] ["self"] (defScope S_with_level) := fnScope_by2 (by decide +kernel)
theorem sc_S_joined : FnScope ["self", "lines", "found", "position", "line"] ["self", "lines"] (defScope S_joined) := fnScope_by2 (by decide +kernel)
theorem sc_want_no_common : FnScope ["one", "other", "common", "node"] ["one", "other"] (defScope s_want_no_common) := fnScope_by2 (by decide +kernel)
theorem sc_has_level : FnScope ["sheet", "value"] ["sheet", "value"] (defScope s_has_level) := fnScope_by2 (by decide +kernel)
theorem sc_want_level : FnScope ["sheet", "value"] ["sheet", "value"] (defScope s_want_level) := fnScope_by2 (by decide +kernel)
theorem sc_is_node : FnScope ["sheet", "value"] ["sheet", "value"] (defScope s_is_node) := fnScope_by2 (by decide +kernel)
theorem sc_want_node : FnScope ["sheet", "value"] ["sheet", "value"] (defScope s_want_node) := fnScope_by2 (by decide +kernel)
theorem sc_law_pot : FnScope ["_law_script", "_law_k", "_law_taken"] ["_law_script", "_law_k"] (defScope s_law_pot) := fnScope_by2 (by decide +kernel)
theorem sc_law_draw : FnScope ["_law_pot_here", "_law_many", "_law_digit"] ["_law_pot_here", "_law_many"] (defScope s_law_draw) := fnScope_by2 (by decide +kernel)
theorem sc_law_pick : FnScope ["_law_pot_here", "_law_some_here"] ["_law_pot_here", "_law_some_here"] (defScope s_law_pick) := fnScope_by2 (by decide +kernel)
theorem sc_law_some : FnScope ["_law_pot_here", "_law_pool_here", "_law_many", "_law_rest", "_law_found", "_law_turn"] ["_law_pot_here", "_law_pool_here", "_law_many"] (defScope s_law_some) := fnScope_by2 (by decide +kernel)
theorem sc_law_pool : FnScope ["_law_found", "_law_at"] [] (defScope s_law_pool) := fnScope_by2 (by decide +kernel)
theorem sc_law_plan : FnScope ["_law_pot_here", "_law_tall", "_law_wide", "_law_many", "_law_pool_here", "_law_rows", "_law_turn", "_law_node", "_law_every", "_law_lines_now"] ["_law_pot_here", "_law_tall", "_law_wide", "_law_many"] (defScope s_law_plan) := fnScope_by2 (by decide +kernel)
theorem sc_law_all_lines : FnScope ["_law_rows", "_law_found", "_law_below_row", "_law_row", "_law_low", "_law_high"] ["_law_rows"] (defScope s_law_all_lines) := fnScope_by2 (by decide +kernel)
theorem sc_law_sheet : FnScope ["_law_plan_here", "_law_row"] ["_law_plan_here"] (defScope s_law_sheet) := fnScope_by2 (by decide +kernel)
theorem sc_law_hanging : FnScope ["_law_plan_there", "_law_first", "_law_found", "_law_turn", "_law_low", "_law_high"] ["_law_plan_there", "_law_first"] (defScope s_law_hanging) := fnScope_by2 (by decide +kernel)
theorem sc_law_parts : FnScope ["_law_plan_there", "_law_found", "_law_known", "_law_row", "_law_name", "_law_some_here", "_law_rows", "_law_near", "_law_further", "_law_one"] ["_law_plan_there"] (defScope s_law_parts) := fnScope_by2 (by decide +kernel)
theorem sc_law_tells : FnScope ["_law_tome", "_law_rows", "_law_lines_now", "_law_at", "_law_row", "_law_name", "_law_up", "_law_low", "_law_high", "_law_down", "_law_one"] ["_law_tome", "_law_rows", "_law_lines_now"] (defScope s_law_tells) := fnScope_by2 (by decide +kernel)
theorem sc_law_told_right : FnScope ["_law_tome", "_law_plan_there", "_law_due", "_law_told", "_law_part", "_law_rows", "_law_name", "_law_row", "_law_one"] ["_law_tome", "_law_plan_there"] (defScope s_law_told_right) := fnScope_by2 (by decide +kernel)
theorem sc_law_others : FnScope ["_law_pot_here", "_law_tome", "_law_plan_there", "_law_rows", "_law_lines_now", "_law_aside", "_law_at", "_law_beside", "_law_found", "_law_low", "_law_high", "_law_wide", "_law_row", "_law_near", "_law_one", "_law_more", "_law_name", "_law_kept"] ["_law_pot_here", "_law_tome", "_law_plan_there"] (defScope s_law_others) := fnScope_by2 (by decide +kernel)
theorem sc_law_again_right : FnScope ["_law_pot_here", "_law_tome", "_law_whole_now", "_law_level_now", "_law_part"] ["_law_pot_here", "_law_tome"] (defScope s_law_again_right) := fnScope_by2 (by decide +kernel)
theorem sc_law_joined_right : FnScope ["_law_pot_here", "_law_tome", "_law_plan_there", "_law_some_here", "_law_bridges", "_law_low", "_law_high", "_law_spots", "_law_at", "_law_part", "_law_one", "_law_longer", "_law_both", "_law_rest"] ["_law_pot_here", "_law_tome", "_law_plan_there"] (defScope s_law_joined_right) := fnScope_by2 (by decide +kernel)
theorem sc_law_long_right : FnScope ["_law_pot_here", "_law_rows", "_law_at", "_law_lines_now", "_law_tome", "_law_one", "_law_both", "_law_part"] ["_law_pot_here"] (defScope s_law_long_right) := fnScope_by2 (by decide +kernel)
theorem sc_law_right : FnScope ["_law_pot_here", "_law_turn", "_law_plan_there", "_law_tome", "_law_near", "_law_further", "_law_bare", "_law_level_now"] ["_law_pot_here"] (defScope s_law_right) := fnScope_by2 (by decide +kernel)
theorem sc_law : FnScope ["_law_script", "_law_k"] ["_law_script"] (defScope s_law) := fnScope_by2 (by decide +kernel)
end U

set_option linter.all false
set_option maxRecDepth 100000
set_option maxHeartbeats 4000000
/-! Small words for the readings. -/
namespace U
open PySem PySem.Spec PyProof.Rows L2 UR
section
variable {K : PySem.W.Frag} {mg : Str → Option Value} {H : Hp} {Q : VK}
theorem isi_ty {x : V} {t n : String} {b : Bool} (ty : TyX K H x (.type t)) (h : kitB t n = some b) (q : Q (.bl b) H) : RIsi K [x, .ty n] H Q := .mk ⟨x, .ty n, .type t, .type n, b, rfl, .ty _, ty, kit_ty h, q⟩
theorem isi_own (T : TX K mg) {a dx : Addr} {fs : List (Str × V)} (e : H a = some (.ins (C K) dx fs)) (q : Q (.bl true) H) : RIsi K [.ref a, .ref (C K)] H Q :=
  .mk ⟨.ref a, .ref (C K), .ref (C K), .ref (C K), true, rfl, .own _, T.tyIns e, by unfold PySem.W.kitOne; simp, q⟩
theorem isi_lt {x : V} {t : String} (ty : TyX K H x (.type t)) (h : kitB t "list" = some true ∨ kitB t "list" = some false ∧ kitB t "tuple" = some true) {p : Addr} (hp : H p = some (.tup [.ty "list", .ty "tuple"])) (q : Q (.bl true) H) : RIsiT K [x, .ref p] H Q := by
  refine .mk ⟨x, p, _, .type t, [.type "list", .type "tuple"], true, rfl, hp, .cons (.ty _) (.cons (.ty _) .nil), ty, ?_, q⟩
  rcases h with h | ⟨h, h2⟩
  · exact kitAny_cons (kit_ty h) (fun z => Bool.noConfusion z) fun _ => rfl
  · exact kitAny_cons (kit_ty h) (fun _ => kitAny_cons (kit_ty h2) (fun z => Bool.noConfusion z) fun _ => rfl) fun z => Bool.noConfusion z
/-- self.own_x -/
theorem fldq (T : TX K mg) {a dx : Addr} {fs : List (Str × V)} {f : Str} {v : V} {R : V → Hp → Prop} (e : H a = some (.ins (C K) dx fs)) (n : NoAttr K (C K) f) (l : fs.lookup f = some v) (q : R v H) :
    ∃ b D dx fs w, V.ref a = .ref b ∧ H b = some (.ins D dx fs) ∧ Cls K D ∧ NoAttr K D f ∧ fs.lookup f = some w ∧ R w H := ⟨a, C K, dx, fs, v, rfl, e, cls T, n, l, q⟩
end
theorem blT {p : Prop} [Decidable p] (h : p) : V.bl (decide p) = V.bl true := by rw [decide_eq_true h]
theorem blF {p : Prop} [Decidable p] (h : ¬p) : V.bl (decide p) = V.bl false := by rw [decide_eq_false h]
theorem paired_eq {β : Type} {f : β → V} : ∀ {l : List β} {ys : List V}, Paired (fun b y => y = f b) l ys → ys = l.map f
  | _, _, .nil => rfl
  | _, _, .cons r t => by rw [List.map_cons, r, paired_eq t]
theorem qT {Q : VK} {H : Hp} {p : Prop} [Decidable p] (h : p) (q : Q (.bl true) H) : Q (.bl (decide p)) H := by rw [decide_eq_true h]; exact q
theorem qF {Q : VK} {H : Hp} {p : Prop} [Decidable p] (h : ¬p) (q : Q (.bl false) H) : Q (.bl (decide p)) H := by rw [decide_eq_false h]; exact q
theorem filter_yes {β : Type} (l : List β) : l.filter (fun _ => true) = l := by simp
/-- all([..]) where every item is True -/
theorem all_true {K : PySem.W.Frag} {β : Type} {l : List β} {H : Hp} {D : Addr} {ys : List V} {Q : VK} (e : H D = some (.lst ys)) (p : Paired (fun _ y => y = V.bl true) l ys) (q : Q (.bl true) H) : RAll K [.ref D] H Q := by
  have h := paired_eq (f := fun _ => V.bl true) p
  refine .mk ⟨D, l.map fun _ => true, rfl, sqR (by rw [e, h, List.map_map]; rfl), ?_⟩
  have : (l.map fun _ => true).all id = true := by simp
  rw [this]
  exact q
theorem sz64 {n : Nat} (h : n ≤ 1000000) : n ≤ sizeLine := Nat.le_trans h (by decide)
theorem sz64' {n : Nat} (h : n ≤ 1000000) : n < sizeLine := Nat.lt_of_le_of_lt h (by decide)
end U

set_option linter.all false
set_option maxRecDepth 100000
set_option maxHeartbeats 2000000
/-! The mirror: sheets as data, how they lie in the heap. -/
namespace U
open PySem PySem.Spec PyProof.Rows L2 UR
/-- a valid name -/
def sgn (c : Nat) : Bool := decide (97 ≤ c ∧ c ≤ 122) || decide (48 ≤ c ∧ c ≤ 57)
def nameOk (x : Str) : Bool := decide (1 ≤ x.length ∧ x.length ≤ 6) && x.cps.toList.all sgn
abbrev Lv := List (List Str)
abbrev Ln := List (Str × Str)
structure Sh where
  lv : Lv
  ln : Ln
  deriving DecidableEq
def srt (l : List Str) : List Str := l.mergeSort sle
def srtL (l : Ln) : Ln := l.mergeSort ple
def mkSh (rows : Lv) (ls : Ln) : Sh := ⟨rows.map srt, srtL ls⟩
/-- p leads from one row to the next -/
def Beside (rows : Lv) (p : Str × Str) : Prop := ∃ i r r', rows[i]? = some r ∧ rows[i + 1]? = some r' ∧ p.1 ∈ r ∧ p.2 ∈ r'
structure Valid (rows : Lv) (ls : Ln) : Prop where
  ne : rows ≠ []
  tall : rows.length ≤ 12
  wide : ∀ r ∈ rows, r.length ≤ 18
  names : ∀ r ∈ rows, ∀ x ∈ r, nameOk x = true
  nd : rows.flatten.Nodup
  few : ls.length ≤ 200
  lnd : ls.Nodup
  ok : ∀ p ∈ ls, Beside rows p
theorem flat_le : ∀ {rows : Lv} {n m : Nat}, rows.length ≤ n → (∀ r ∈ rows, r.length ≤ m) → rows.flatten.length ≤ n * m
  | [], n, m, _, _ => Nat.zero_le _
  | r :: rows, 0, m, h, _ => by simp at h
  | r :: rows, n + 1, m, h, w => by
    have h1 := flat_le (rows := rows) (n := n) (m := m) (by simpa using h) fun r m => w r (List.mem_cons_of_mem _ m)
    have h2 := w r List.mem_cons_self
    rw [List.flatten_cons, List.length_append, Nat.succ_mul]
    omega
theorem Valid.flat {rows : Lv} {ls : Ln} (v : Valid rows ls) : rows.flatten.length ≤ 216 := flat_le v.tall v.wide
theorem srt_perm (l : List Str) : (srt l).Perm l := List.mergeSort_perm _ _
theorem srtL_perm (l : Ln) : (srtL l).Perm l := List.mergeSort_perm _ _
theorem flat_perm : ∀ rows : Lv, (rows.map srt).flatten.Perm rows.flatten
  | [] => .nil
  | r :: rows => by
    rw [List.map_cons, List.flatten_cons, List.flatten_cons]
    exact (srt_perm r).append (flat_perm rows)
theorem Beside.srt {rows : Lv} {p : Str × Str} (h : Beside rows p) : Beside (rows.map srt) p := by
  obtain ⟨i, r, r', h1, h2, h3, h4⟩ := h
  exact ⟨i, U.srt r, U.srt r', by rw [List.getElem?_map, h1]; rfl, by rw [List.getElem?_map, h2]; rfl, (srt_perm r).mem_iff.mpr h3, (srt_perm r').mem_iff.mpr h4⟩
theorem Valid.srt {rows : Lv} {ls : Ln} (v : Valid rows ls) : Valid (rows.map srt) (srtL ls) where
  ne := by simpa using v.ne
  tall := by rw [List.length_map]; exact v.tall
  wide := fun r m => by
    obtain ⟨r', m', rfl⟩ := List.mem_map.mp m
    rw [(srt_perm r').length_eq]
    exact v.wide r' m'
  names := fun r m x mx => by
    obtain ⟨r', m', rfl⟩ := List.mem_map.mp m
    exact v.names r' m' x ((srt_perm r').mem_iff.mp mx)
  nd := (flat_perm rows).nodup_iff.mpr v.nd
  few := by rw [(srtL_perm ls).length_eq]; exact v.few
  lnd := (srtL_perm ls).nodup_iff.mpr v.lnd
  ok := fun p m => (v.ok p ((srtL_perm ls).mem_iff.mp m)).srt
/-! ### numbers, neighbours -/
def numK (lv : Lv) : List (Key × V) := lv.zipIdx.flatMap fun p => p.1.map fun x => (Sum.inr x, V.int p.2)
def upL (ln : Ln) (x : Str) : List Str := (ln.filter fun p => decide (p.1 = x)).map (·.2)
def dnL (ln : Ln) (x : Str) : List Str := (ln.filter fun p => decide (p.2 = x)).map (·.1)
theorem valV_at {kvs : List (Key × V)} {k : Key} {v : V} (nd : (kvs.map (·.1)).Nodup) (m : (k, v) ∈ kvs) : valV kvs k = some v := by
  induction kvs with
  | nil => cases m
  | cons p r ih =>
    rw [List.map_cons, List.nodup_cons] at nd
    rcases List.mem_cons.mp m with e | m
    · subst e
      exact valV_pos rfl
    · rw [valV_neg (fun e => nd.1 (e ▸ List.mem_map.mpr ⟨_, m, rfl⟩))]
      exact ih nd.2 m
theorem numK_keys' : ∀ (lv : Lv) (n : Nat), (((lv.zipIdx n).flatMap fun p => p.1.map fun x => ((Sum.inr x : Key), V.int p.2)).map (·.1)) = lv.flatten.map Sum.inr
  | [], _ => rfl
  | r :: lv, n => by
    rw [List.zipIdx_cons, List.flatMap_cons, List.map_append, numK_keys' lv (n + 1), List.flatten_cons, List.map_append, List.map_map]
    rfl
theorem numK_keys (lv : Lv) : (numK lv).map (·.1) = lv.flatten.map Sum.inr := numK_keys' lv 0
theorem inr_nodup {l : List Str} (h : l.Nodup) : (l.map (Sum.inr : Str → Key)).Nodup := List.pairwise_map.mpr (h.imp fun n e => n (Sum.inr.inj e))
theorem num_at {lv : Lv} {i : Nat} {r : List Str} {x : Str} (nd : lv.flatten.Nodup) (h : lv[i]? = some r) (m : x ∈ r) : valV (numK lv) (.inr x) = some (.int i) := by
  refine valV_at (by rw [numK_keys]; exact inr_nodup nd) ?_
  refine List.mem_flatMap.mpr ⟨(r, i), ?_, List.mem_map.mpr ⟨x, m, rfl⟩⟩
  exact List.mem_of_getElem? (i := i) (by rw [List.getElem?_zipIdx, h]; simp)
/-! ### a sheet in the heap -/
/-- where the neighbours of each node lie -/
def NbAt (H : Hp) (kvs : List (Key × V)) (nodes : List Str) (nb : Str → List Str) : Prop := Paired (fun x (kv : Key × V) => kv.1 = .inr x ∧ ∃ p, kv.2 = .ref p ∧ LS H p (nb x)) nodes kvs
def shF (A B D E F G : Addr) : List (Str × V) := [("own_levels", .ref A), ("own_nodes", .ref B), ("own_numbers", .ref D), ("own_lines", .ref E), ("own_above", .ref F), ("own_below", .ref G)]
def SheetAt (K : PySem.W.Frag) (H : Hp) (a : Addr) (S : Sh) : Prop := ∃ dx A B D E F G kf kg, H a = some (.ins (C K) dx (shF A B D E F G)) ∧ LL H A S.lv ∧ LS H B S.lv.flatten ∧ H D = some (.dK (numK S.lv)) ∧ LT H E S.ln ∧
  H F = some (.dK kf) ∧ NbAt H kf S.lv.flatten (upL S.ln) ∧ H G = some (.dK kg) ∧ NbAt H kg S.lv.flatten (dnL S.ln)
theorem NbAt.g {H H' : Hp} {kvs : List (Key × V)} {nodes : List Str} {nb : Str → List Str} (h : NbAt H kvs nodes nb) (s : SameG H H') : NbAt H' kvs nodes nb := L2.Paired.mapP h fun _ _ ⟨e, p, e2, l⟩ => ⟨e, p, e2, l.g s⟩
theorem SheetAt.g {K : PySem.W.Frag} {H H' : Hp} {a : Addr} {S : Sh} (h : SheetAt K H a S) (s : SameG H H') : SheetAt K H' a S := by
  obtain ⟨dx, A, B, D, E, F, G, kf, kg, h1, h2, h3, h4, h5, h6, h7, h8, h9⟩ := h
  exact ⟨dx, A, B, D, E, F, G, kf, kg, s _ _ True.intro h1, h2.g s, h3.g s, s _ _ True.intro h4, h5.g s, s _ _ True.intro h6, h7.g s, s _ _ True.intro h8, h9.g s⟩
theorem SheetAt.s {K : PySem.W.Frag} {H H' : Hp} {a : Addr} {S : Sh} (h : SheetAt K H a S) (s : Same H H') : SheetAt K H' a S := h.g s.g
theorem SheetAt.ins {K : PySem.W.Frag} {H : Hp} {a : Addr} {S : Sh} (h : SheetAt K H a S) : IsIns H a (C K) := let ⟨dx, A, B, D, E, F, G, _, _, h1, _⟩ := h; ⟨dx, _, h1⟩
/-- a list, a dict -/
def old : Option HO → Bool
  | some (.lst _) => true
  | some (.dK _) => true
  | _ => false
theorem old_same {H1 H2 : Hp} {b : Addr} (s : Same H1 H2) (h : old (H2 b) = false) : old (H1 b) = false := by
  rcases e : H1 b with _ | u
  · rfl
  · rw [s _ _ e] at h
    exact h
/-- without the lists and dicts that stood ahead -/
def dropL (H H' : Hp) : Hp := fun b => if old (H b) = true then none else H' b
theorem dropL_at {H H' : Hp} {b : Addr} (h : old (H b) = false) : dropL H H' b = H' b := if_neg (by rw [h]; exact Bool.false_ne_true)
theorem dropL_some {H H' : Hp} {b : Addr} {o : HO} (e : dropL H H' b = some o) : old (H b) = false ∧ H' b = some o := by
  unfold dropL at e
  split at e
  · cases e
  · rename_i n
    exact ⟨by simpa using n, e⟩
theorem dropL_same (H H' : Hp) : Same (dropL H H') H' := fun b o e => (dropL_some e).2
theorem dropL_ers {H H' : Hp} {l : Addr} (h : old (H l) = true) : Same (dropL H H') (ers l H') := fun b o e => by
  obtain ⟨n, e⟩ := dropL_some e
  have hb : b ≠ l := fun z => by
    rw [z, h] at n
    cases n
  rw [ers_ne hb]
  exact e
theorem dropL_ers2 {H H' : Hp} {l k : Addr} (h : old (H l) = true) (h2 : old (H k) = true) : Same (dropL H H') (ers l (ers k H')) := fun b o e => by
  have e1 := dropL_ers h2 _ _ e
  have e2 := dropL_ers h _ _ e
  exact (ers_ne (ers_some e2).1).trans e1
theorem dropL_mono {H1 H2 H' : Hp} (s : Same H1 H2) : Same (dropL H2 H') (dropL H1 H') := fun b o e => by
  obtain ⟨n, e⟩ := dropL_some e
  rw [dropL_at (old_same s n)]
  exact e
theorem dropL_same2 {H H1 H2 : Hp} (s : Same H1 H2) : Same (dropL H H1) (dropL H H2) := fun b o e => by
  obtain ⟨n, e⟩ := dropL_some e
  rw [dropL_at n]
  exact s _ _ e
end U

set_option linter.all false
set_option maxRecDepth 100000
set_option maxHeartbeats 4000000
/-! Walks, first part: basics. -/
namespace U
open PySem PySem.Spec PyProof.Rows L2 UR
theorem sgn_in {c : Nat} (h : sgn c = true) : c ∈ (("abcdefghijklmnopqrstuvwxyz" : Str) ++ ("0123456789" : Str)).cps.toList := by
  have lt : c < 128 := by
    unfold sgn at h
    rw [Bool.or_eq_true, decide_eq_true_eq, decide_eq_true_eq] at h
    omega
  have all : ∀ c < 128, sgn c = true → c ∈ (("abcdefghijklmnopqrstuvwxyz" : Str) ++ ("0123456789" : Str)).cps.toList := by decide +kernel
  exact all c lt h
section
variable {P : Program} {w : World} {K : PySem.W.Frag} {mg : Str → Option Value} {base : Heap} (T : TX K mg)
include T
def sp_is_integer : Sp := fun vs H Q _ => ∃ i : Int, vs = [.int i] ∧ Q (.bl true) H
theorem f_is_integer : Fn P w K mg base 1 (fA K "is_integer") sp_is_integer [] := by
  obtain ⟨fd, F⟩ := dd_is_integer T
  have nd := sc_is_integer.nd
  refine fnD F (F.bindsN fun _ _ _ _ _ _ us hl => match us, hl with | [_], _ => rfl) sc_is_integer (fun vs H Q E h => ?_) (fun cdv A outer s H vs Q E hr h => ?_)
  · obtain ⟨i, rfl, _⟩ := h; rfl
  · obtain ⟨i, rfl, q⟩ := h
    have hu := hu_of hr
    refine ⟨_, PSs.nox ((pss_one (ps_ret (pe_and (pe_callB (k_isi (K := K) rfl) rfl (b_isinstance T) (by decide +kernel) (pa_cons (pv 0) (pa_cons (pe_bltn (v := .ty "int") rfl (b_int T) (by decide +kernel) rfl) pa_nil))) (pe_one (pe_not (pe_callB (k_isi (K := K) rfl) rfl (b_isinstance T) (by decide +kernel) (pa_cons (pv 0) (pa_cons (pe_bltn (v := .ty "bool") rfl (b_bool T) (by decide +kernel) rfl) pa_nil))))))))), ?_⟩
    refine ⟨.int i, rfl, isi_ty (.base (.int i)) (by decide +kernel) ⟨true, rfl, iteT ?_⟩⟩
    exact ⟨.int i, rfl, isi_ty (.base (.int i)) (by decide +kernel) ⟨false, rfl, q⟩⟩
def sp_is_count : Sp := fun vs H Q _ => ∃ i : Int, vs = [.int i] ∧ Q (.bl (decide (0 ≤ i))) H
theorem f_is_count : Fn P w K mg base 6 (fA K "is_count") sp_is_count [] := by
  obtain ⟨fd, F⟩ := dd_is_count T
  have nd := sc_is_count.nd
  refine fnD F (F.bindsN fun _ _ _ _ _ _ us hl => match us, hl with | [_], _ => rfl) sc_is_count (fun vs H Q E h => ?_) (fun cdv A outer s H vs Q E hr h => ?_)
  · obtain ⟨i, rfl, _⟩ := h; rfl
  · obtain ⟨i, rfl, q⟩ := h
    have hu := hu_of hr
    refine ⟨_, PSs.nox ((pss_one (ps_ret (pe_and (pe_f (f_is_integer T) hr (by decide) rfl (g_is_integer T) (kp_is_integer T) (pa_cons (pv 0) pa_nil)) (pe_one (pe_cmpR op_ge (pv 0) pe_int (nomark _))))))), ?_⟩
    exact ⟨.int i, rfl, i, rfl, true, rfl, iteT ⟨.int i, rfl, i, 0, rfl, rfl, q⟩⟩
def sp_is_name : Sp := fun vs H Q _ => ∃ x : Str, vs = [.str x] ∧ nameOk x = true ∧ ∀ H', Same H H' → Q (.bl true) H'
theorem f_is_name : Fn P w K mg base 1 (fA K "is_name") sp_is_name [] := by
  obtain ⟨fd, F⟩ := dd_is_name T
  have nd := sc_is_name.nd
  refine fnD F (F.bindsN fun _ _ _ _ _ _ us hl => match us, hl with | [_], _ => rfl) sc_is_name (fun vs H Q E h => ?_) (fun cdv A outer s H vs Q E hr h => ?_)
  · obtain ⟨i, rfl, _⟩ := h; rfl
  · obtain ⟨x, rfl, ok, q⟩ := h
    have hu := hu_of hr
    obtain ⟨_, gLETTERS, rLETTERS⟩ := c_LETTERS T
    obtain ⟨_, gDIGITS, rDIGITS⟩ := c_DIGITS T
    obtain ⟨_, gLONGEST_NAME, rLONGEST_NAME⟩ := c_LONGEST_NAME T
    refine ⟨_, PSs.nox ((pss_cons (ps_if (PW.pt (pw_or (pt_not (pt_val (pe_callB (k_isi (K := K) rfl) rfl (b_isinstance T) (by decide +kernel) (pa_cons (pv 0) (pa_cons (pe_bltn (v := .ty "str") rfl (b_str T) (by decide +kernel) rfl) pa_nil))))) (pw_or1 (pt_not (pt_chain op_le op_le pe_int (pe_callB call_len_str rfl (b_len T) PySem.boot_len (pa_cons (pv 0) pa_nil)) (pe_glob rfl gLONGEST_NAME rLONGEST_NAME))))))
  (pss_one (ps_ret pe_bl))
  pss_nil)
  (pss_one (ps_ret (pe_callB (k_all (K := K) rfl rfl) rfl (b_all T) (by decide +kernel) (pa_cons (pe_lc (own := [("sign", 1)]) (g := gName 1) (tt := tYes) rfl nd (pi_str (pv 0)) (blkOk_by (by rfl)) (fun _ _ _ _ _ => (pg_name (i := 1) nd rfl (by first | exact Or.inl rfl | exact Or.inr rfl))) (fun _ _ _ _ _ => pts_nil) (fun _ _ _ _ _ => (pe_cmpR op_in_sign (pv 1) (pe_op op_add_str (pe_glob rfl gLETTERS rLETTERS) (pe_glob rfl gDIGITS rDIGITS)) (by with_unfolding_all rfl)))) pa_nil)))))), ?_⟩
    have ok' := ok
    unfold nameOk at ok'
    rw [Bool.and_eq_true, decide_eq_true_eq] at ok'
    obtain ⟨⟨l1, l6⟩, al⟩ := ok'
    refine ⟨.str x, rfl, isi_ty (.base (.str x)) (by decide +kernel) ⟨true, rfl, iteF ?_⟩⟩
    refine ⟨.str x, rfl, x, rfl, sz64 (by omega), 1, x.length, rfl, rfl, true, blT (by omega), iteT ?_⟩
    refine ⟨x.length, 6, rfl, rfl, true, blT (by omega), iteF ?_⟩
    refine ⟨.str x, rfl, x, rfl, fun D hD => ?_⟩
    refine lcG (wk_str x) hD (sz64' ?_) (fun _ => true) (fun c v _ => v = .bl true) (fun _ _ _ _ _ h => h) (fun c hc v H' Nx s1 _ _ e _ yes no => ?_) (fun H' ys s1 eD p => ?_)
    · show x.cps.toList.length ≤ 1000000
      have : x.length = x.cps.toList.length := by show x.cps.size = _; simp
      omega
    · subst e
      refine ⟨rfl, tyes (iteT ?_)⟩
      refine ⟨.str ⟨#[c]⟩, rfl, _, _, rfl, rfl, sz64 (by decide +kernel), c, _, rfl, rfl, yes _ _ rfl (.refl _) (blT ?_)⟩
      exact sgn_in (List.all_eq_true.mp al c hc)
    · exact all_true eD p (q _ (s1.trans (ers_same D H')))
def sp_is_list (K : PySem.W.Frag) : Sp := fun vs H Q _ => ∃ a : Addr, vs = [.ref a] ∧ ((∃ xs, H a = some (.lst xs)) ∨ ∃ o, K.lookup a = some o ∧ o.cls = .type "tuple") ∧ ∀ H', Same H H' → Q (.bl true) H'
theorem f_is_list : Fn P w K mg base 1 (fA K "is_list") (sp_is_list K) [] := by
  obtain ⟨fd, F⟩ := dd_is_list T
  have nd := sc_is_list.nd
  refine fnD F (F.bindsN fun _ _ _ _ _ _ us hl => match us, hl with | [_], _ => rfl) sc_is_list (fun vs H Q E h => ?_) (fun cdv A outer s H vs Q E hr h => ?_)
  · obtain ⟨i, rfl, _⟩ := h; rfl
  · obtain ⟨a, rfl, ok, q⟩ := h
    have hu := hu_of hr
    refine ⟨_, PSs.nox ((pss_one (ps_ret (pe_callB (k_isiT (K := K) rfl) rfl (b_isinstance T) (by decide +kernel) (pa_cons (pv 0) (pa_cons (pe_tup (pa_cons (pe_bltn (v := .ty "list") rfl (b_list T) (by decide +kernel) rfl) (pa_cons (pe_bltn (v := .ty "tuple") rfl (b_tuple T) (by decide +kernel) rfl) pa_nil))) pa_nil)))))), ?_⟩
    refine ⟨.ref a, rfl, by show 2 ≤ sizeLine; decide, fun p hp => ?_⟩
    have s1 : Same H (upd H p (.tup [.ty "list", .ty "tuple"])) := same_new hp
    rcases ok with ⟨xs, e⟩ | ⟨o, e, c⟩
    · exact isi_lt (.base (.lst (s1 _ _ e))) (.inl (by decide +kernel)) upd_same (q _ s1)
    · exact isi_lt (.kTuple e c) (.inr ⟨by decide +kernel, by decide +kernel⟩) upd_same (q _ s1)
end
end U

set_option linter.all false
set_option maxRecDepth 100000
set_option maxHeartbeats 4000000
/-! Walks, second part: the looks at levels and lines. -/
namespace U
open PySem PySem.Spec PyProof.Rows L2 UR
theorem zipIdx_at {α : Type} {l : List α} {i : Nat} {b : α × Nat} (h : l.zipIdx[i]? = some b) : l[i]? = some b.1 ∧ b.2 = i := by
  rw [List.getElem?_zipIdx] at h
  cases q : l[i]? with
  | none => rw [q] at h; cases h
  | some c => rw [q] at h; cases h; exact ⟨rfl, by simp⟩
theorem valV_none {κ : Type} [DecidableEq κ] {kvs : List (κ × V)} {k : κ} (h : k ∉ kvs.map (·.1)) : valV kvs k = none := by
  induction kvs with
  | nil => rfl
  | cons p r ih =>
    rw [List.map_cons, List.mem_cons, not_or] at h
    rw [valV_neg (fun e => h.1 e.symm)]
    exact ih h.2
theorem inr_mem {x : Str} {l : List Str} (h : (Sum.inr x : Key) ∈ l.map Sum.inr) : x ∈ l := by
  obtain ⟨y, m, e⟩ := List.mem_map.mp h
  cases e
  exact m
theorem flat_take {l : List (List Str)} {i : Nat} {r : List Str} (h : l[i]? = some r) : (l.take (i + 1)).flatten = (l.take i).flatten ++ r := by
  rw [List.take_add_one, h, List.flatten_append]
  simp
/-- a name of a row isn't ahead of it -/
theorem fresh_at {l : List (List Str)} {i j : Nat} {r : List Str} {x : Str} (nd : l.flatten.Nodup) (h : l[i]? = some r) (hx : r[j]? = some x) : x ∉ (l.take i).flatten ++ r.take j := by
  have e : l.flatten = (l.take i).flatten ++ (r.take j ++ x :: r.drop (j + 1)) ++ (l.drop (i + 1)).flatten := by
    have h1 : l = l.take i ++ r :: l.drop (i + 1) := by
      obtain ⟨hi, e⟩ := List.getElem?_eq_some_iff.mp h
      rw [← e]
      exact (List.take_append_drop i l).symm.trans (by rw [List.drop_eq_getElem_cons hi])
    have h2 : r = r.take j ++ x :: r.drop (j + 1) := by
      obtain ⟨hj, e⟩ := List.getElem?_eq_some_iff.mp hx
      rw [← e]
      exact (List.take_append_drop j r).symm.trans (by rw [List.drop_eq_getElem_cons hj])
    have h3 := congrArg List.flatten h1
    rw [List.flatten_append, List.flatten_cons] at h3
    rw [← h2, List.append_assoc]
    exact h3
  rw [e] at nd
  have n2 := (List.nodup_append.mp nd).1
  rw [← List.append_assoc] at n2
  intro m
  exact (List.nodup_append.mp n2).2.2 x m x List.mem_cons_self rfl
def lkey (p : Str × Str) : List Key := [.inr p.1, .inr p.2]
theorem lkey_inj {p q : Str × Str} (h : lkey p = lkey q) : p = q := by
  have h1 := congrArg (fun l => l[0]?) h
  have h2 := congrArg (fun l => l[1]?) h
  exact Prod.ext (Sum.inr.inj (Option.some.inj h1)) (Sum.inr.inj (Option.some.inj h2))
theorem putT_new {kvs : List (List Key × V)} {k : List Key} {z : V} (h : k ∉ kvs.map (·.1)) : putK kvs k z = kvs ++ [(k, z)] := by
  have e : (kvs.any fun kv => decide (kv.1 = k)) = false := by
    rw [List.any_eq_false]
    intro kv m q
    exact h (List.mem_map.mpr ⟨kv, m, of_decide_eq_true q⟩)
  unfold putK
  rw [e]
  rfl
section
variable {P : Program} {w : World} {K : PySem.W.Frag} {mg : Str → Option Value} {base : Heap} (T : TX K mg)
include T
def sp_first_wrong_level : Sp := fun vs H Q _ => ∃ (A : Addr) (rows : List (List Str)), vs = [.ref A] ∧ LL H A rows ∧ (∀ r ∈ rows, ∀ x ∈ r, nameOk x = true) ∧ rows.flatten.Nodup ∧ rows.flatten.length ≤ 1000000 ∧ ∀ H', Same H H' → Q .non H'
theorem f_first_wrong_level : Fn P w K mg base 6 (fA K "first_wrong_level") sp_first_wrong_level [] := by
  obtain ⟨fd, F⟩ := dd_first_wrong_level T
  have nd := sc_first_wrong_level.nd
  refine fnD F (F.bindsN fun _ _ _ _ _ _ us hl => match us, hl with | [_], _ => rfl) sc_first_wrong_level (fun vs H Q E h => ?_) (fun cdv A outer s H vs Q E hr h => ?_)
  · obtain ⟨A, rows, rfl, _⟩ := h; rfl
  · obtain ⟨a, rows, rfl, ⟨ps, rfl, eA, hps⟩, ok, ndR, lz, q⟩ := h
    have hu := hu_of hr
    refine ⟨_, PSs.nox ((pss_cons (ps_asg pe_dnewK (pg_name (i := 1) nd rfl (by first | exact Or.inl rfl | exact Or.inr rfl)))
  (pss_cons (ps_for PassesOwn.never rfl (k_ienum (K := K) rfl rfl (b_enumerate T) (pa_cons (pv 0) pa_nil)) (k_gtup (K := K) (n := 2) rfl rfl (pgs_cons (pg_name (i := 2) nd rfl (by first | exact Or.inl rfl | exact Or.inr rfl)) (pgs_cons (pg_name (i := 3) nd rfl (by first | exact Or.inl rfl | exact Or.inr rfl)) pgs_nil)))
  (pss_cons (ps_if (pt_not (pt_val (pe_f (f_is_list T) hr (by decide) rfl (g_is_list T) (kp_is_list T) (pa_cons (pv 3) pa_nil))))
  (pss_one (ps_ret (pv 2)))
  pss_nil)
  (pss_one (ps_for PassesOwn.never rfl (k_ilist (K := K) rfl (pv 3)) (pg_name (i := 4) nd rfl (by first | exact Or.inl rfl | exact Or.inr rfl))
  (pss_cons (ps_if (PW.pt (pw_or (pt_not (pt_val (pe_f (f_is_name T) hr (by decide) rfl (g_is_name T) (kp_is_name T) (pa_cons (pv 4) pa_nil)))) (pw_or1 (pt_cmp (pc_din hu (pv 4) (pv 1))))))
  (pss_one (ps_ret (pv 2)))
  pss_nil)
  (pss_one (ps_dput hu (pv 1) (pv 4) pe_bl rfl)))))))
  (pss_one (ps_ret pe_non))))), ?_⟩
    intro d hd
    have s1 : Same H (upd H d (.dK [])) := same_new hd
    refine ⟨.ref a, rfl, a, _, rfl, sqR (s1 _ _ eA), ?_⟩
    refine forG (wk_enum (sqR eA) (good_ref _ _)) (fun i σ H' => ∃ y2 y3 y4 kvs, σ = [some (.ref a), some (.ref d), y2, y3, y4] ∧ Same H (ers d H') ∧ H' d = some (.dK kvs) ∧ kvs.map (·.1) = (((ps.map (·.2)).take i).flatten).map Sum.inr)
      ⟨none, none, none, [], rfl, by rw [ers_upd, ers_free hd]; exact .refl _, upd_same, rfl⟩ (fun i σ H' ⟨_, _, _, _, _, s, _⟩ => (s.trans (ers_same _ _)).g) ?_ ?_
    · rintro i0 ⟨p, i⟩ x σ H1 H2 e ⟨y2, y3, y4, kvs, rfl, s, ed, ek⟩ sm ⟨t, rfl, eT⟩
      obtain ⟨e, rfl⟩ := zipIdx_at e
      have mem : p ∈ ps := List.mem_of_getElem? e
      have hp : LS H p.1 p.2 := hps p mem
      have erow : (ps.map (·.2))[i]? = some p.2 := by rw [List.getElem?_map, e]; rfl
      have sH2 : Same H (ers d H2) := s.trans (sm.ers d)
      have ed2 := sm _ _ ed
      refine ⟨t, _, rfl, .inl (.inl eT), rfl, _, _, rfl, _, _, rfl, rfl, ?_⟩
      refine ⟨.ref p.1, rfl, p.1, rfl, .inl ⟨_, hp.s (sH2.trans (ers_same _ _))⟩, fun H3 s3 => ⟨true, rfl, iteF ?_⟩⟩
      have sH3 : Same H (ers d H3) := sH2.trans (s3.ers d)
      refine ⟨.ref p.1, rfl, p.1, rfl, ⟨_, (hp.s (sH3.trans (ers_same _ _))).sq⟩, ?_⟩
      refine forG (wk_list (f := V.str) hp.sq (good_str _)) (fun j σ H' => ∃ y4 kvs, σ = [some (.ref a), some (.ref d), some (.int i), some (.ref p.1), y4] ∧ Same H (ers d H') ∧ H' d = some (.dK kvs) ∧ kvs.map (·.1) = (((ps.map (·.2)).take i).flatten ++ p.2.take j).map Sum.inr)
        ⟨y4, kvs, rfl, sH3, s3 _ _ ed2, by rw [ek]; simp⟩ (fun j σ H' ⟨_, _, _, s, _⟩ => (s.trans (ers_same _ _)).g) ?_ ?_
      · rintro j x v σ H4 H5 ex ⟨y4, kvs, rfl, s, ed, ek⟩ sm rfl
        have sH5 : Same H (ers d H5) := s.trans (sm.ers d)
        have mx : x ∈ p.2 := List.mem_of_getElem? ex
        refine ⟨.str x, rfl, x, rfl, ok p.2 (List.mem_map.mpr ⟨p, mem, rfl⟩) x mx, fun H6 s6 => ⟨true, rfl, iteF ?_⟩⟩
        have ed6 := s6 _ _ (sm _ _ ed)
        have nk : (Sum.inr x : Key) ∉ kvs.map (·.1) := by
          rw [ek]
          exact fun m => fresh_at ndR erow ex (inr_mem m)
        have kl : kvs.length < sizeLine := by
          have h1 := congrArg List.length ek
          rw [List.length_map, List.length_map, List.length_append, List.length_take] at h1
          have h2 : ((ps.map (·.2)).take (i + 1)).flatten.length ≤ (ps.map (·.2)).flatten.length := by
            have := congrArg (fun l => l.flatten.length) (List.take_append_drop (i + 1) (ps.map (·.2)))
            simp only [List.flatten_append, List.length_append] at this
            omega
          rw [flat_take erow, List.length_append] at h2
          have h3 : j < p.2.length := (List.getElem?_eq_some_iff.mp ex).1
          exact sz64' (by omega)
        have dg := DGet.k (k := .inr x) ed6
        rw [valV_none nk] at dg
        refine ⟨.str x, rfl, .ref d, rfl, d, none, rfl, dg, false, rfl, iteF ?_⟩
        refine ⟨.ref d, rfl, .str x, rfl, d, _, rfl, DPut.k (k := .inr x) ed6 kl, _, _, rfl, ?_, upd_same, ?_⟩
        · rw [ers_upd]; exact sH5.trans (s6.ers d)
        · rw [putK_new nk, List.map_append, ek, List.take_add_one, ex]
          simp
      · rintro σ H4 ⟨y4, kvs, rfl, s, ed, ek⟩
        refine ⟨_, _, _, kvs, rfl, s, ed, ?_⟩
        rw [ek, List.take_length, flat_take erow]
    · rintro σ H1 ⟨y2, y3, y4, kvs, rfl, s, ed, ek⟩
      exact q _ (s.trans (ers_same _ _))
def sp_is_line_beside : Sp := fun vs H Q _ => ∃ (d t : Addr) (kvs : List (Key × V)) (p : Str × Str) (i : Int), vs = [.ref d, .ref t] ∧ H d = some (.dK kvs) ∧ TP H t p ∧ valV kvs (.inr p.1) = some (.int i) ∧ valV kvs (.inr p.2) = some (.int (i + 1)) ∧ ∀ H', Same H H' → Q (.bl true) H'
theorem f_is_line_beside : Fn P w K mg base 6 (fA K "is_line_beside") sp_is_line_beside [] := by
  obtain ⟨fd, F⟩ := dd_is_line_beside T
  have nd := sc_is_line_beside.nd
  refine fnD F (F.bindsN fun _ _ _ _ _ _ us hl => match us, hl with | [_, _], _ => rfl) sc_is_line_beside (fun vs H Q E h => ?_) (fun cdv A outer s H vs Q E hr h => ?_)
  · obtain ⟨d, t, kvs, p, i, rfl, _⟩ := h; rfl
  · obtain ⟨d, t, kvs, p, i, rfl, ed, et, v1, v2, q⟩ := h
    have hu := hu_of hr
    have et' : H t = some (.tup ([p.1, p.2].map V.str)) := et
    refine ⟨_, PSs.nox ((pss_cons (ps_if (PW.pt (pw_or (pt_not (pt_val (pe_callB (k_isi (K := K) rfl) rfl (b_isinstance T) (by decide +kernel) (pa_cons (pv 1) (pa_cons (pe_bltn (v := .ty "tuple") rfl (b_tuple T) (by decide +kernel) rfl) pa_nil))))) (pw_or (pt_cmpR op_ne (pe_callB (k_len (K := K) rfl) rfl (b_len T) PySem.boot_len (pa_cons (pv 1) pa_nil)) pe_int (nomark _)) (pw_or1 (pt_not (pt_val (pe_callB (k_all (K := K) rfl rfl) rfl (b_all T) (by decide +kernel) (pa_cons (pe_lc (own := [("node", 2)]) (g := gName 2) (tt := tYes) rfl nd (k_itup (K := K) rfl (pv 1)) (blkOk_by (by rfl)) (fun _ _ _ _ _ => (pg_name (i := 2) nd rfl (by first | exact Or.inl rfl | exact Or.inr rfl))) (fun _ _ _ _ _ => pts_nil) (fun _ _ _ _ _ => (pe_callB (k_isi (K := K) rfl) rfl (b_isinstance T) (by decide +kernel) (pa_cons (pv 2) (pa_cons (pe_bltn (v := .ty "str") rfl (b_str T) (by decide +kernel) rfl) pa_nil))))) pa_nil))))))))
  (pss_one (ps_ret pe_bl))
  pss_nil)
  (pss_cons (ps_asg (pv 1) (k_gtup (K := K) (n := 2) rfl rfl (pgs_cons (pg_name (i := 3) nd rfl (by first | exact Or.inl rfl | exact Or.inr rfl)) (pgs_cons (pg_name (i := 4) nd rfl (by first | exact Or.inl rfl | exact Or.inr rfl)) pgs_nil))))
  (pss_one (ps_ret (pe_and (pe_cmp (pc_din hu (pv 3) (pv 0)) rfl) (pe_and (pe_cmp (pc_din hu (pv 4) (pv 0)) rfl) (pe_one (pe_cmpR op_eq (pe_dget hu (pv 0) (pv 4) (fun _ _ => rfl)) (pe_op op_add (pe_dget hu (pv 0) (pv 3) (fun _ _ => rfl)) pe_int) (nomark _)))))))))), ?_⟩
    refine ⟨.ref t, rfl, isi_ty (.base (.tup et)) (by decide +kernel) ⟨true, rfl, iteF ?_⟩⟩
    refine ⟨.ref t, rfl, t, _, rfl, .inr et.sq, rfl, false, rfl, iteF ?_⟩
    refine ⟨.ref t, rfl, t, rfl, ⟨_, et.sq⟩, fun D hD => ?_⟩
    refine lcG (wk_tup et') hD (sz64' (by show 2 ≤ 1000000; decide)) (fun _ => true) (fun c v _ => v = .bl true) (fun _ _ _ _ _ h => h) (fun x hx v H' Nx s1 _ _ e _ yes no => ?_) (fun H' ys s1 eD pp => ?_)
    · subst e
      refine ⟨rfl, tyes (iteT ⟨.str x, rfl, isi_ty (.base (.str x)) (by decide +kernel) (yes _ _ rfl (.refl _) rfl)⟩)⟩
    · have s2 : Same H H' := s1.trans (ers_same D H')
      refine all_true eD pp ?_
      refine ⟨true, rfl, iteF ?_⟩
      refine ⟨.ref t, rfl, t, _, rfl, (et.s s2).sq, rfl, _, _, rfl, _, _, rfl, rfl, ?_⟩
      have dg1 := DGet.k (k := .inr p.1) (s2 _ _ ed)
      have dg2 := DGet.k (k := .inr p.2) (s2 _ _ ed)
      rw [v1] at dg1
      rw [v2] at dg2
      refine ⟨.str p.1, rfl, .ref d, rfl, d, _, rfl, dg1, true, rfl, iteT ?_⟩
      refine ⟨.str p.2, rfl, .ref d, rfl, d, _, rfl, dg2, true, rfl, iteT ?_⟩
      refine ⟨.ref d, rfl, .str p.2, rfl, d, _, rfl, dg2, .ref d, rfl, .str p.1, rfl, d, _, rfl, dg1, i, 1, rfl, rfl, rfl, ?_⟩
      rw [decide_eq_true rfl]
      exact q _ s2
/-- an empty tuple of the written part -/
def Tup0 (K : PySem.W.Frag) (a : Addr) : Prop := (∃ o, K.lookup a = some o ∧ o.cls = .type "tuple") ∧ ∀ H, SqT K H a []
/-- lines, or none at all -/
def LTQ (K : PySem.W.Frag) (H : Hp) (a : Addr) (ls : List (Str × Str)) : Prop := LT H a ls ∨ ls = [] ∧ Tup0 K a
def sp_first_wrong_line (K : PySem.W.Frag) : Sp := fun vs H Q _ => ∃ (d a : Addr) (kvs : List (Key × V)) (ls : List (Str × Str)), vs = [.ref d, .ref a] ∧ H d = some (.dK kvs) ∧ LTQ K H a ls ∧
  (∀ p ∈ ls, ∃ i : Int, valV kvs (.inr p.1) = some (.int i) ∧ valV kvs (.inr p.2) = some (.int (i + 1))) ∧ ls.Nodup ∧ ls.length ≤ 1000000 ∧ ∀ H', Same H H' → Q .non H'
theorem f_first_wrong_line : Fn P w K mg base 11 (fA K "first_wrong_line") (sp_first_wrong_line K) [] := by
  obtain ⟨fd, F⟩ := dd_first_wrong_line T
  have nd := sc_first_wrong_line.nd
  refine fnD F (F.bindsN fun _ _ _ _ _ _ us hl => match us, hl with | [_, _], _ => rfl) sc_first_wrong_line (fun vs H Q E h => ?_) (fun cdv A outer s H vs Q E hr h => ?_)
  · obtain ⟨d, a, kvs, ls, rfl, _⟩ := h; rfl
  · obtain ⟨d, a, kvs, ls, rfl, eD, hl, ok, ndL, lz, q⟩ := h
    have hu := hu_of hr
    refine ⟨_, PSs.nox ((pss_cons (ps_asg pe_dnewT (pg_name (i := 2) nd rfl (by first | exact Or.inl rfl | exact Or.inr rfl)))
  (pss_cons (ps_for PassesOwn.never rfl (k_ienumQ (K := K) rfl rfl (b_enumerate T) (pa_cons (pv 1) pa_nil)) (k_gtup (K := K) (n := 2) rfl rfl (pgs_cons (pg_name (i := 3) nd rfl (by first | exact Or.inl rfl | exact Or.inr rfl)) (pgs_cons (pg_name (i := 4) nd rfl (by first | exact Or.inl rfl | exact Or.inr rfl)) pgs_nil)))
  (pss_cons (ps_if (PW.pt (pw_or (pt_not (pt_val (pe_f (f_is_line_beside T) hr (by decide) rfl (g_is_line_beside T) (kp_is_line_beside T) (pa_cons (pv 0) (pa_cons (pv 4) pa_nil))))) (pw_or1 (pt_cmp (pc_din hu (pv 4) (pv 2))))))
  (pss_one (ps_ret (pv 3)))
  pss_nil)
  (pss_one (ps_dput hu (pv 2) (pv 4) pe_bl rfl))))
  (pss_one (ps_ret pe_non))))), ?_⟩
    intro n hn
    have s1 : Same H (upd H n (.dT [])) := same_new hn
    refine ⟨.ref a, rfl, a, rfl, ?_⟩
    rcases hl with ⟨ps, rfl, eA, hps⟩ | ⟨rfl, e0⟩
    · refine .inl ⟨_, sqR (s1 _ _ eA), ?_⟩
      refine forG (wk_enum (sqR eA) (good_ref _ _)) (fun i σ H' => ∃ y3 y4 kz, σ = [some (.ref d), some (.ref a), some (.ref n), y3, y4] ∧ Same H (ers n H') ∧ H' n = some (.dT kz) ∧ kz.map (·.1) = ((ps.map (·.2)).take i).map lkey)
        ⟨none, none, [], rfl, by rw [ers_upd, ers_free hn]; exact .refl _, upd_same, rfl⟩ (fun i σ H' ⟨_, _, _, _, s, _⟩ => (s.trans (ers_same _ _)).g) ?_ ?_
      · rintro i0 ⟨p, i⟩ x σ H1 H2 e ⟨y3, y4, kz, rfl, s, en, ek⟩ sm ⟨t, rfl, eT⟩
        obtain ⟨e, rfl⟩ := zipIdx_at e
        have mem : p ∈ ps := List.mem_of_getElem? e
        have hp : TP H p.1 p.2 := hps p mem
        have sH2 : Same H (ers n H2) := s.trans (sm.ers n)
        have el : (ps.map (·.2))[i]? = some p.2 := by rw [List.getElem?_map, e]; rfl
        obtain ⟨j, v1, v2⟩ := ok p.2 (List.mem_of_getElem? el)
        refine ⟨t, _, rfl, .inl (.inl eT), rfl, _, _, rfl, _, _, rfl, rfl, ?_⟩
        refine ⟨.ref d, rfl, .ref p.1, rfl, d, p.1, kvs, p.2, j, rfl, (sH2.trans (ers_same _ _)) _ _ eD, hp.s (sH2.trans (ers_same _ _)), v1, v2, fun H3 s3 => ⟨true, rfl, iteF ?_⟩⟩
        have sH3 : Same H (ers n H3) := sH2.trans (s3.ers n)
        have en3 := s3 _ _ (sm _ _ en)
        have nk : lkey p.2 ∉ kz.map (·.1) := by
          rw [ek]
          intro m
          obtain ⟨p', m', e'⟩ := List.mem_map.mp m
          rw [lkey_inj e'] at m'
          obtain ⟨j', hj', ej⟩ := List.getElem_of_mem m'
          rw [List.length_take] at hj'
          rw [List.getElem_take] at ej
          have e2 : (ps.map (·.2))[j']? = some p.2 := by rw [← ej]; exact List.getElem?_eq_getElem _
          have := nd_ix ndL el e2
          omega
        have kl : kz.length < sizeLine := by
          have h1 := congrArg List.length ek
          rw [List.length_map, List.length_map, List.length_take] at h1
          exact sz64' (by omega)
        have et3 : H3 p.1 = some (.tup ((lkey p.2).map kV)) := hp.s (sH3.trans (ers_same _ _))
        have dg := DGet.t en3 et3
        rw [valV_none nk] at dg
        refine ⟨.ref p.1, rfl, .ref n, rfl, n, none, rfl, dg, false, rfl, iteF ?_⟩
        refine ⟨.ref n, rfl, .ref p.1, rfl, n, _, rfl, DPut.t en3 et3 kl, _, _, _, rfl, ?_, upd_same, ?_⟩
        · rw [ers_upd]; exact sH3
        · rw [putT_new nk, List.map_append, ek, List.take_add_one, el]
          simp
      · rintro σ H1 ⟨y3, y4, kz, rfl, s, en, ek⟩
        exact q _ (s.trans (ers_same _ _))
    · refine .inr ⟨e0.2 _, ?_⟩
      refine forG (bs := ([] : List Unit)) (Y := fun _ _ _ => True) (wk_enum0 (e0.2 H) _ fun _ _ _ _ _ h => h) (fun i σ H' => Same H H') s1 (fun i σ H' s => s.g) (fun i b x σ H H' e => by simp at e) (fun σ H1 s => q _ s)
end
end U

set_option linter.all false
set_option maxRecDepth 100000
set_option maxHeartbeats 4000000
/-! Walks, third part: a sheet is made. -/
namespace U
open PySem PySem.Spec PyProof.Rows L2 UR
section
variable {P : Program} {w : World} {K : PySem.W.Frag} {mg : Str → Option Value} {base : Heap} (T : TX K mg)
include T
def sp_S_want_limits (K : PySem.W.Frag) : Sp := fun vs H Q _ => ∃ (x A E dx : Addr) (fs : List (Str × V)) (lv : Lv) (ln : Ln), vs = [.ref x] ∧ H x = some (.ins (C K) dx fs) ∧ fs.lookup ("own_levels" : Str) = some (.ref A) ∧ fs.lookup ("own_lines" : Str) = some (.ref E) ∧
  (fs.lookup ("MOST_LEVELS" : Str) = none ∧ fs.lookup ("MOST_NODES" : Str) = none ∧ fs.lookup ("MOST_LINES" : Str) = none ∧ fs.lookup ("want_limits" : Str) = none) ∧ LL H A lv ∧ LT H E ln ∧ lv ≠ [] ∧ lv.length ≤ 12 ∧ (∀ r ∈ lv, r.length ≤ 18) ∧ ln.length ≤ 200 ∧ ∀ H', Same H H' → Q .non H'
theorem f_S_want_limits : Fn P w K mg base 1 (mA K "want_limits") (sp_S_want_limits K) [] := by
  obtain ⟨fd, F⟩ := dd_S_want_limits T
  have nd := sc_S_want_limits.nd
  refine fnD F (F.bindsN fun _ _ _ _ _ _ us hl => match us, hl with | [_], _ => rfl) sc_S_want_limits (fun vs H Q E h => ?_) (fun cdv A outer s H vs Q E hr h => ?_)
  · obtain ⟨x, A, E, dx, fs, lv, ln, rfl, _⟩ := h; rfl
  · obtain ⟨x, A, E, dx, fs, lv, ln, rfl, ex, lA, lE, ⟨l1, l2, l3, _⟩, ⟨ps, rfl, eA, hps⟩, ⟨qs, rfl, eE, hqs⟩, ne, tall, wide, few, q⟩ := h
    have hu := hu_of hr
    obtain ⟨u1, c1⟩ := con_levels T
    obtain ⟨u2, c2⟩ := con_nodes T
    obtain ⟨u3, c3⟩ := con_lines T
    rw [List.length_map] at tall few
    refine ⟨_, PSs.nox ((pss_cons (ps_if (pt_cmpR op_gt (pe_callB (k_len (K := K) rfl) rfl (b_len T) PySem.boot_len (pa_cons (k_fld (K := K) rfl (pv 0)) pa_nil)) (k_con (K := K) rfl (pv 0)) (nomark _))
  (pss_one ps_never)
  pss_nil)
  (pss_cons (ps_if (pt_cmpR op_gt (pe_callB (k_max (K := K) rfl rfl) rfl (b_max T) (by decide +kernel) (pa_cons (pe_lc (own := [("names", 1)]) (g := gName 1) (tt := tYes) rfl nd (k_ilist (K := K) rfl (k_fld (K := K) rfl (pv 0))) (blkOk_by (by rfl)) (fun _ _ _ _ _ => (pg_name (i := 1) nd rfl (by first | exact Or.inl rfl | exact Or.inr rfl))) (fun _ _ _ _ _ => pts_nil) (fun _ _ _ _ _ => (pe_callB (k_len (K := K) rfl) rfl (b_len T) PySem.boot_len (pa_cons (pv 1) pa_nil)))) pa_nil)) (k_con (K := K) rfl (pv 0)) (nomark _))
  (pss_one ps_never)
  pss_nil)
  (pss_one (ps_if (pt_cmpR op_gt (pe_callB (k_len (K := K) rfl) rfl (b_len T) PySem.boot_len (pa_cons (k_fld (K := K) rfl (pv 0)) pa_nil)) (k_con (K := K) rfl (pv 0)) (nomark _))
  (pss_one ps_never)
  pss_nil))))), ?_⟩
    refine ⟨.ref x, rfl, x, _, _, _, _, rfl, ex, cls T, na_own_levels T, lA, A, _, rfl, .inl (sqR eA), .ref x, rfl, x, _, _, _, _, u1, rfl, ex, cls T, c1, l1, _, _, rfl, rfl, false, blF (by rw [List.length_map]; omega), iteF ?_⟩
    refine ⟨.ref x, rfl, x, _, _, _, _, rfl, ex, cls T, na_own_levels T, lA, A, rfl, ⟨_, sqR eA⟩, fun D hD => ?_⟩
    refine lcG (wk_list (sqR eA) (good_ref _ _)) hD (sz64' (by omega)) (fun _ => true) (fun p v _ => v = .int p.2.length) (fun _ _ _ _ _ h => h) (fun p hp v H' Nx s1 _ _ e _ yes no => ?_) (fun H' ys s1 eD pp => ?_)
    · subst e
      refine ⟨rfl, tyes (iteT ⟨.ref p.1, rfl, p.1, _, rfl, .inl ((hps p hp).s (s1.trans (ers_same _ _))).sq, yes _ _ rfl (.refl _) ?_⟩)⟩
      rw [List.length_map]
    · have s2 : Same H H' := s1.trans (ers_same D H')
      have hy := paired_eq (f := fun p : Addr × List Str => V.int p.2.length) pp
      rw [filter_yes] at hy
      have ey : ys = (ps.map fun p => (p.2.length : Int)).map V.int := by rw [hy, List.map_map]; rfl
      refine ⟨D, ps.map fun p => (p.2.length : Int), rfl, sqR (by rw [eD, ey]), ?_, fun m hm hle => ?_⟩
      · rw [List.length_map]
        cases ps with
        | nil => exact (ne rfl).elim
        | cons p r => exact Nat.succ_pos _
      · obtain ⟨p, hp, rfl⟩ := List.mem_map.mp hm
        have hw := wide p.2 (List.mem_map.mpr ⟨p, hp, rfl⟩)
        refine ⟨.ref x, rfl, x, _, _, _, _, u2, rfl, s2 _ _ ex, cls T, c2, l2, _, _, rfl, rfl, false, blF (by omega), iteF ?_⟩
        refine ⟨.ref x, rfl, x, _, _, _, _, rfl, s2 _ _ ex, cls T, na_own_lines T, lE, E, _, rfl, .inl (sqR (s2 _ _ eE)), .ref x, rfl, x, _, _, _, _, u3, rfl, s2 _ _ ex, cls T, c3, l3, _, _, rfl, rfl, false, blF (by rw [List.length_map]; omega), iteF ?_⟩
        exact q _ s2
end
end U

set_option linter.all false
set_option maxRecDepth 100000
set_option maxHeartbeats 8000000
/-! Walks, fourth part: __init__. -/
namespace U
open PySem PySem.Spec PyProof.Rows L2 UR
/-- all but x stays -/
def Off (x : Addr) (H H' : Hp) : Prop := ∀ b o, b ≠ x → H b = some o → H' b = some o
theorem Off.refl {x : Addr} {H : Hp} : Off x H H := fun _ _ _ h => h
theorem Off.trans {x : Addr} {H H1 H2 : Hp} (a : Off x H H1) (b : Off x H1 H2) : Off x H H2 := fun c o n h => b c o n (a c o n h)
theorem Off.of {x : Addr} {H H' : Hp} (h : Same H H') : Off x H H' := fun b o _ e => h b o e
theorem Off.put {x : Addr} {H : Hp} {o : HO} : Off x H (upd H x o) := fun b u n e => by rw [upd_ne n]; exact e
/-- what is new stood nowhere -/
theorem Off.none {x q : Addr} {H H' : Hp} {o : HO} (h : Off x H H') (ex : H' x = some o) (n : H' q = none) : H q = none ∧ q ≠ x := by
  have nx : q ≠ x := fun z => by rw [z, ex] at n; cases n
  refine ⟨?_, nx⟩
  rcases e : H q with _ | u
  · rfl
  · rw [h q u nx e] at n; cases n
/-- the new things alone: no x, no list that stood -/
def New (x : Addr) (H H' : Hp) : Hp := ers x (dropL H H')
theorem New.mono {x : Addr} {H H1 H2 : Hp} (h : Off x H1 H2) : Same (New x H H1) (New x H H2) := fun b o e => by
  obtain ⟨n, e⟩ := ers_some e
  obtain ⟨n2, e⟩ := dropL_some e
  exact (ers_ne n).trans ((dropL_at n2).trans (h b o n e))
theorem New.at_ {x b : Addr} {H H' : Hp} (n : b ≠ x) (h : H b = none) : New x H H' b = H' b := (ers_ne n).trans (dropL_at (by rw [h]; rfl))
theorem New.tup {x b : Addr} {H H' : Hp} {o : HO} {ys : List V} (h : H b = some (.tup ys)) (n : b ≠ x) : New x H H' b = H' b := (ers_ne n).trans (dropL_at (by rw [h]; rfl))
theorem New.same {x : Addr} {H H' : Hp} : Same (New x H H') H' := (ers_same _ _).trans (dropL_same _ _)
theorem map_sorted {α β : Type} (f : α → β) (le : β → β → Bool) (l : List α) : (l.mergeSort fun a b => le (f a) (f b)).map f = (l.map f).mergeSort le := List.map_mergeSort fun _ _ _ _ => rfl
theorem numK_of (ps : List (Addr × List Str)) : (ps.zipIdx.flatMap fun p => p.1.2.map fun x => ((Sum.inr x : Key), V.int p.2)) = numK (ps.map (·.2)) := by
  unfold numK
  rw [List.zipIdx_map, List.flatMap_map]
  rfl
/-- the neighbours found so far -/
def Nbd (G : Hp) (kvs : List (Key × V)) (nb : Str → List Str) : Prop := ∀ x : Str, (valV kvs (.inr x) = none ∧ nb x = []) ∨ ∃ p, valV kvs (.inr x) = some (.ref p) ∧ LS G p (nb x)
theorem Nbd.s {G G' : Hp} {kvs : List (Key × V)} {nb : Str → List Str} (h : Nbd G kvs nb) (s : Same G G') : Nbd G' kvs nb := fun x => (h x).imp id fun ⟨p, e, l⟩ => ⟨p, e, l.s s⟩
theorem Nbd.put {G : Hp} {kvs : List (Key × V)} {nb nb' : Str → List Str} (h : Nbd G kvs nb) {x : Str} {p : Addr} (l : LS G p (nb' x)) (o : ∀ y, y ≠ x → nb' y = nb y) : Nbd G (putK kvs (.inr x) (.ref p)) nb' := fun y => by
  rw [valV_put]
  by_cases e : y = x
  · subst e
    exact .inr ⟨p, if_pos rfl, l⟩
  · rw [if_neg (fun z => e (Sum.inr.inj z)), o y e]
    exact h y
theorem putK_len {kvs : List (Key × V)} {k : Key} {v : V} : (putK kvs k v).length ≤ kvs.length + 1 := by
  unfold putK
  split
  · rw [List.length_map]; exact Nat.le_succ _
  · rw [List.length_append]; exact Nat.le_refl _
theorem upL_snoc {l : Ln} {p : Str × Str} {x : Str} : upL (l ++ [p]) x = upL l x ++ (if p.1 = x then [p.2] else []) := by
  unfold upL
  rw [List.filter_append, List.map_append]
  by_cases h : p.1 = x <;> simp [h]
theorem dnL_snoc {l : Ln} {p : Str × Str} {x : Str} : dnL (l ++ [p]) x = dnL l x ++ (if p.2 = x then [p.1] else []) := by
  unfold dnL
  rw [List.filter_append, List.map_append]
  by_cases h : p.2 = x <;> simp [h]
theorem sortLQ {K : PySem.W.Frag} {H : Hp} {B : Addr} {ls : Ln} {Q : VK} (h : LTQ K H B ls) (q : ∀ (p : Addr) (qs : List (Addr × Str × Str)), H p = none → srtL ls = qs.map (·.2) → (∀ z ∈ qs, TP H z.1 z.2) → Q (.ref p) (upd H p (.lst (qs.map fun z => .ref z.1)))) : rSortLQ K [.ref B] H Q := by
  rcases h with ⟨qs, rfl, e, h⟩ | ⟨rfl, h⟩
  · refine .inl ⟨B, qs, rfl, sqR e, fun z hz => (h z hz).sq, fun p hp => q p _ hp ?_ fun z hz => h z (List.mem_mergeSort.mp hz)⟩
    exact (map_sorted (fun z : Addr × Str × Str => z.2) ple qs).symm
  · exact .inr ⟨B, rfl, h.2 H, fun p hp => q p [] hp (by unfold srtL; simp) fun z hz => nomatch hz⟩
theorem New.tp {x t C dx : Addr} {fs : List (Str × V)} {p : Str × Str} {H H' : Hp} (o : Off x H H') (e : H' x = some (.ins C dx fs)) (h : TP H' t p) : TP (New x H H') t p := by
  have nx : t ≠ x := ne_of h e (fun z => nomatch z)
  refine ((ers_ne nx).trans (dropL_at ?_)).trans h
  have h2 : H' t = some (.tup [.str p.1, .str p.2]) := h
  rcases z : H t with _ | u
  · rfl
  · rw [o _ _ nx z] at h2
    cases h2
    rfl
/-- d[k] = d.get(k, []) + [v] -/
theorem put_step {G H2 : Hp} {d : Addr} {kvs : List (Key × V)} {nb : Str → List Str} {k v : Str} {i j m : Nat} {σ : L2.St} {Dn : Ends} (hi : σ[i]? = some (some (.ref d))) (hj : σ[j]? = some (some (.str k))) (hm : σ[m]? = some (some (.str v)))
    (ed : H2 d = some (.dK kvs)) (hn : Nbd G kvs nb) (sG : Same G H2) (len : (nb k).length ≤ 1000000) (kl : kvs.length < sizeLine)
    (fin : ∀ K4 p, Off d H2 K4 → K4 d = some (.dK (putK kvs (.inr k) (.ref p))) → H2 p = none → LS K4 p (nb k ++ [v]) → Dn.nx σ K4) :
    sDPut (tVar i) (tVar j) (tOp rCat (tDGet2 (tVar i) (tVar j) (tLst tNil)) (tLst (tCons (tVar m) tNil))) Dn σ H2 := by
  refine ⟨.ref d, hi, d, rfl, .inl ⟨_, .inl ed⟩, .str k, hj, Nat.zero_le _, fun q1 hq1 => ?_⟩
  have s1 : Same H2 (upd H2 q1 (.lst [])) := same_new hq1
  have e1 : upd H2 q1 (.lst []) q1 = some (.lst []) := upd_same
  generalize upd H2 q1 (.lst []) = K1 at s1 e1 ⊢
  have dg := DGet.k (k := .inr k) (s1 _ _ ed)
  refine ⟨_, dg, ?_⟩
  obtain ⟨l, el, ll⟩ : ∃ l, (valV kvs (.inr k)).getD (.ref q1) = .ref l ∧ LS K1 l (nb k) := by
    rcases hn k with ⟨e, z⟩ | ⟨p, e, lp⟩
    · exact ⟨q1, by rw [e]; rfl, by rw [z]; exact e1⟩
    · exact ⟨p, by rw [e]; rfl, lp.s (sG.trans s1)⟩
  refine ⟨.str v, hm, by show 1 ≤ sizeLine; exact sz64 (by decide), fun q2 hq2 => ?_⟩
  have s2 : Same K1 (upd K1 q2 (.lst [.str v])) := same_new hq2
  have e2 : upd K1 q2 (.lst [.str v]) q2 = some (.lst [.str v]) := upd_same
  generalize upd K1 q2 (.lst [.str v]) = K2 at s2 e2 ⊢
  refine ⟨l, q2, _, _, el, rfl, ll.s s2, e2, by have := sizeLine_eq; rw [List.length_map, List.length_singleton]; omega, fun q3 hq3 => ?_⟩
  have s3 : Same K2 (upd K2 q3 (.lst ((nb k).map V.str ++ [.str v]))) := same_new hq3
  have e3 : upd K2 q3 (.lst ((nb k).map V.str ++ [.str v])) q3 = some (.lst ((nb k).map V.str ++ [.str v])) := upd_same
  generalize upd K2 q3 (.lst ((nb k).map V.str ++ [.str v])) = K3 at s3 e3 ⊢
  have s13 := (s1.trans s2).trans s3
  have nd : q3 ≠ d := fun z => by rw [z, s2 _ _ (s1 _ _ ed)] at hq3; cases hq3
  refine ⟨.ref d, hi, .str k, hj, d, _, rfl, DPut.k (k := .inr k) (s13 _ _ ed) kl, ?_⟩
  refine fin _ q3 ((Off.of s13).trans .put) upd_same ((s1.trans s2).free hq3) ?_
  exact (upd_ne nd).trans (by rw [e3, List.map_append]; rfl)
section
variable {P : Program} {w : World} {K : PySem.W.Frag} {mg : Str → Option Value} {base : Heap} (T : TX K mg)
def sp_S_init (K : PySem.W.Frag) : Sp := fun vs H Q _ => ∃ (x A B dx : Addr) (rows : Lv) (ls : Ln), vs = [.ref x, .ref A, .ref B] ∧ H x = some (.ins (C K) dx []) ∧ LL H A rows ∧ LTQ K H B ls ∧ Valid rows ls ∧
  ∀ H', Off x H H' → SheetAt K (dropL H H') x (mkSh rows ls) → Q .non H'
/-- the end: the neighbours' dicts; K's own -/
theorem init_body {f : Addr} {cdv : Value} {A0 : Around} {outer : List Env} {s : Shared} {H : Hp} {vs : List V} {Q : VK} {E : XK} (T : TX K mg) (hr : Room 15 (A0.deeper (envOfC "Sheet.__init__" (defScope S_init) s.heap.objs.size f cdv))) (h : sp_S_init K vs H Q E) :
    ∃ t, PSs (cxOf CX0 P w K mg base ["self", "levels", "lines", "position", "names", "node", "number", "above", "below", "low", "high"] "Sheet.__init__" (defScope S_init) f cdv A0 outer s H E).nox (defBody S_init) t ∧ t { nx := fun _ H' => Q .non H', rt := Q } (start ["self", "levels", "lines", "position", "names", "node", "number", "above", "below", "low", "high"] vs) H := by
  obtain ⟨x, A, B, dx, rows, ls, rfl, ex, ⟨ps, rfl, eA, hps⟩, hl, va, q⟩ := h
  have hu := hu_of hr
  have nd := sc_S_init.nd
  refine ⟨_, PSs.nox ((pss_cons (ps_if (PW.pt (pw_or (pt_not (pt_val (pe_f (f_is_list T) hr (by decide) rfl (g_is_list T) (kp_is_list T) (pa_cons (pv 1) pa_nil)))) (pw_or1 (pt_cmpR op_eq (pe_callB (k_len (K := K) rfl) rfl (b_len T) PySem.boot_len (pa_cons (pv 1) pa_nil)) pe_int (nomark _)))))
  (pss_one ps_never)
  pss_nil)
  (pss_cons (ps_asg (pe_f (f_first_wrong_level T) hr (by decide) rfl (g_first_wrong_level T) (kp_first_wrong_level T) (pa_cons (pv 1) pa_nil)) (pg_name (i := 3) nd rfl (by first | exact Or.inl rfl | exact Or.inr rfl)))
  (pss_cons (ps_if (pt_cmpR op_notN (pv 3) pe_non (nomark _))
  (pss_one ps_never)
  pss_nil)
  (pss_cons (ps_fld (pv 0) (pe_lc (own := [("names", 4)]) (g := gName 4) (tt := tYes) rfl nd (k_ilist (K := K) rfl (pv 1)) (blkOk_by (by rfl)) (fun _ _ _ _ _ => (pg_name (i := 4) nd rfl (by first | exact Or.inl rfl | exact Or.inr rfl))) (fun _ _ _ _ _ => pts_nil) (fun _ _ _ _ _ => (pe_callB (k_sortN (K := K) rfl hr.units) rfl (b_sorted T) (by decide +kernel) (pa_cons (pv 4) pa_nil)))) rfl)
  (pss_cons (ps_fld (pv 0) (pe_lc2 (own := [("names", 4), ("node", 5)]) (vs1 := [5]) (g := gName 4) (g1 := gName 5) (tt := tYes) (tt1 := tYes) rfl nd (k_ilist (K := K) rfl (k_fld (K := K) rfl (pv 0))) (blkOk_by (by rfl)) (by decide) (fun _ _ _ _ _ => (pg_name (i := 4) nd rfl (by first | exact Or.inl rfl | exact Or.inr rfl))) (fun _ _ _ _ _ => pts_nil) (fun _ _ _ _ _ => (k_ilist (K := K) rfl (pv 4))) (fun _ _ _ _ _ => (pg_name (i := 5) nd rfl (by first | exact Or.inl rfl | exact Or.inr rfl))) (fun _ _ _ _ _ => pts_nil) (fun _ _ _ _ _ => (pv 5))) rfl)
  (pss_cons (ps_fld (pv 0) (pe_dc2 (own := [("number", 6), ("names", 4), ("node", 5)]) (vs1 := [5]) rfl nd (k_ienum (K := K) rfl rfl (b_enumerate T) (pa_cons (k_fld (K := K) rfl (pv 0)) pa_nil)) (blkOk_by (by rfl)) (by decide) (fun _ _ _ _ _ => (k_gtup (K := K) (n := 2) rfl rfl (pgs_cons (pg_name (i := 6) nd rfl (by first | exact Or.inl rfl | exact Or.inr rfl)) (pgs_cons (pg_name (i := 4) nd rfl (by first | exact Or.inl rfl | exact Or.inr rfl)) pgs_nil)))) (fun _ _ _ _ _ => (k_ilist (K := K) rfl (pv 4))) (fun _ _ _ _ _ => (pg_name (i := 5) nd rfl (by first | exact Or.inl rfl | exact Or.inr rfl))) (fun _ _ _ _ _ => (pv 5)) (fun _ _ _ _ _ => (pv 6))) rfl)
  (pss_cons (ps_if (pt_not (pt_val (pe_f (f_is_list T) hr (by decide) rfl (g_is_list T) (kp_is_list T) (pa_cons (pv 2) pa_nil))))
  (pss_one ps_never)
  pss_nil)
  (pss_cons (ps_asg (pe_f (f_first_wrong_line T) hr (by decide) rfl (g_first_wrong_line T) (kp_first_wrong_line T) (pa_cons (k_fld (K := K) rfl (pv 0)) (pa_cons (pv 2) pa_nil))) (pg_name (i := 3) nd rfl (by first | exact Or.inl rfl | exact Or.inr rfl)))
  (pss_cons (ps_if (pt_cmpR op_notN (pv 3) pe_non (nomark _))
  (pss_one ps_never)
  pss_nil)
  (pss_cons (ps_fld (pv 0) (pe_callB (k_sortLQ (K := K) rfl hr.units) rfl (b_sorted T) (by decide +kernel) (pa_cons (pv 2) pa_nil)) rfl)
  (pss_cons (ps_expr (pe_m0 (f_S_want_limits T) hr (by decide) (cls T) (m_S_want_limits T) (pv 0)))
  (pss_cons (ps_asg pe_dnewK (pg_name (i := 7) nd rfl (by first | exact Or.inl rfl | exact Or.inr rfl)))
  (pss_cons (ps_asg pe_dnewK (pg_name (i := 8) nd rfl (by first | exact Or.inl rfl | exact Or.inr rfl)))
  (pss_cons (ps_for PassesOwn.never rfl (k_ilist (K := K) rfl (k_fld (K := K) rfl (pv 0))) (k_gtup (K := K) (n := 2) rfl rfl (pgs_cons (pg_name (i := 9) nd rfl (by first | exact Or.inl rfl | exact Or.inr rfl)) (pgs_cons (pg_name (i := 10) nd rfl (by first | exact Or.inl rfl | exact Or.inr rfl)) pgs_nil)))
  (pss_cons (ps_dput hu (pv 7) (pv 9) (pe_op op_cat (pe_dget2 hu (pv 7) (pv 9) (pe_lst pa_nil) ⟨rfl, rfl, rfl, rfl⟩) (pe_lst (pa_cons (pv 10) pa_nil))) rfl)
  (pss_one (ps_dput hu (pv 8) (pv 10) (pe_op op_cat (pe_dget2 hu (pv 8) (pv 10) (pe_lst pa_nil) ⟨rfl, rfl, rfl, rfl⟩) (pe_lst (pa_cons (pv 9) pa_nil))) rfl))))
  (pss_cons (ps_fld (pv 0) (pe_dc (own := [("node", 5)]) (g := gName 5) (tt := tYes) rfl nd (k_ilist (K := K) rfl (k_fld (K := K) rfl (pv 0))) (blkOk_by (by rfl)) (fun _ _ _ _ _ => (pg_name (i := 5) nd rfl (by first | exact Or.inl rfl | exact Or.inr rfl))) (fun _ _ _ _ _ => pts_nil) (fun _ _ _ _ _ => (pv 5)) (fun _ _ _ _ _ => (pe_dget2 hu (pv 7) (pv 5) (pe_lst pa_nil) ⟨rfl, rfl, rfl, rfl⟩))) rfl)
  (pss_one (ps_fld (pv 0) (pe_dc (own := [("node", 5)]) (g := gName 5) (tt := tYes) rfl nd (k_ilist (K := K) rfl (k_fld (K := K) rfl (pv 0))) (blkOk_by (by rfl)) (fun _ _ _ _ _ => (pg_name (i := 5) nd rfl (by first | exact Or.inl rfl | exact Or.inr rfl))) (fun _ _ _ _ _ => pts_nil) (fun _ _ _ _ _ => (pv 5)) (fun _ _ _ _ _ => (pe_dget2 hu (pv 8) (pv 5) (pe_lst pa_nil) ⟨rfl, rfl, rfl, rfl⟩))) rfl)))))))))))))))))), ?_⟩
  have na : A ≠ x := ne_of eA ex (fun z => nomatch z)
  have nps : ∀ p ∈ ps, p.1 ≠ x := fun p hp => ne_of (hps p hp) ex (fun z => nomatch z)
  -- is_list(levels), len(levels) == 0
  refine ⟨.ref A, rfl, A, rfl, .inl ⟨_, eA⟩, fun H1 s1 => ⟨true, rfl, iteF ?_⟩⟩
  refine ⟨.ref A, rfl, A, _, rfl, .inl (sqR (s1 _ _ eA)), rfl, false, blF (fun e => ?_), iteF ?_⟩
  · have e0 := V.int.inj e
    have h0 := va.ne
    cases ps with
    | nil => exact h0 rfl
    | cons p r =>
      rw [List.map_cons, List.length_cons] at e0
      omega
  -- position = first_wrong_level(levels)
  refine ⟨.ref A, rfl, A, _, rfl, LL.s ⟨ps, rfl, eA, hps⟩ s1, va.names, va.nd, Nat.le_trans va.flat (by decide), fun H2 s2 => ?_⟩
  have o2 : Off x H H2 := .of (s1.trans s2)
  have ex2 : H2 x = _ := s2 _ _ (s1 _ _ ex)
  refine ⟨.non, rfl, rfl, false, rfl, iteF ?_⟩
  -- self.own_levels
  have eA2 := o2 _ _ na eA
  refine ⟨.ref A, rfl, A, rfl, ⟨_, sqR eA2⟩, fun D hD => ?_⟩
  refine lcG (wk_list (f := fun p : Addr × List Str => V.ref p.1) (sqR eA2) (good_ref _ _)) hD (sz64' (by have := va.tall; rw [List.length_map] at this; omega)) (fun _ => true) (fun p y G => ∃ z, y = .ref z ∧ LS G z (srt p.2) ∧ H z = none ∧ z ≠ x)
    (fun p y G G' g ⟨z, e, l, n⟩ => ⟨z, e, l.s g, n⟩) (fun p hp v H' Nx sN _ ⟨acc, eacc⟩ e _ yes no => ?_) (fun H3 ys s3 eD3 pp => ?_)
  · subst e
    have sN' : Same H2 H' := sN.trans (ers_same _ _)
    refine ⟨rfl, tyes (iteT ⟨.ref p.1, rfl, p.1, p.2, rfl, (LS.s (a := p.1) (l := p.2) (o2 _ _ (nps p hp) (hps p hp)) sN').sq, fun _ _ => True.intro, fun z hz => ?_⟩)⟩
    have nz := (o2.trans (.of sN')).none (sN' _ _ ex2) hz
    refine yes _ _ rfl (same_new hz) ⟨z, rfl, ?_, nz⟩
    exact (ers_ne (show z ≠ D from fun e => by rw [e, eacc] at hz; cases hz)).trans upd_same
  · rw [filter_yes] at pp
    have s3' : Same H2 H3 := s3.trans (ers_same _ _)
    have nD := o2.none ex2 hD
    refine ⟨.ref x, rfl, x, _, _, _, rfl, s3' _ _ ex2, cls T, na_own_levels T, by decide, ?_⟩
    generalize hH4 : upd H3 x (.ins (C K) dx (putF "own_levels" (.ref D) [])) = H4
    have ex4 : H4 x = some (.ins (C K) dx [("own_levels", .ref D)]) := by rw [← hH4]; exact upd_same
    have o34 : Off x H3 H4 := by rw [← hH4]; exact .put
    have o4 := (o2.trans (.of s3')).trans o34
    have hL : LL (New x H H4) D (ps.map fun p => srt p.2) := by
      refine LL.made (L2.Paired.mapP pp fun p y ⟨z, e, l, n0, nx⟩ => ⟨z, e, ?_⟩) ((New.at_ nD.2 nD.1).trans (o34 _ _ nD.2 eD3))
      exact (New.at_ nx n0).trans (o34 _ _ nx ((ers_same _ _) _ _ l))
    obtain ⟨rs, elv, eD4, hrs⟩ := hL
    have eD4' := New.same _ _ eD4
    have nodes_len : (rs.flatMap (·.2)).length ≤ 216 := by
      have h1 := va.srt.flat
      have h2 : rs.flatMap (·.2) = ((ps.map (·.2)).map srt).flatten := by
        rw [List.map_map, show (ps.map (srt ∘ fun x => x.2)) = ps.map (fun p => srt p.2) from rfl, elv, List.flatMap_def]
      rw [h2]
      exact h1
    -- self.own_nodes
    refine ⟨.ref x, rfl, x, _, _, _, _, rfl, ex4, cls T, na_own_levels T, rfl, D, rfl, ⟨_, sqR eD4'⟩, fun B2 hB2 => ?_⟩
    refine lc2G (bs := rs) (R := fun d y _ => y = V.str d) (wk_list (f := fun p : Addr × List Str => V.ref p.1) (sqR eD4') (good_ref _ _)) hB2 (fun p => p.2) (sz64' (by omega)) (fun p hp v pre ys H' Nx sN eacc pacc hn e _ fin => ?_) (fun _ _ _ _ _ h => h) (fun H5 ys s5 e5 pp5 => ?_)
    · subst e
      have hp' : LS H4 p.1 p.2 := (hrs p hp).s New.same
      refine ⟨rfl, tyes (iteT ⟨.ref p.1, rfl, p.1, rfl, ⟨_, (hp'.s (sN.trans (ers_same _ _))).sq⟩, ?_⟩)⟩
      refine lc2In (R := fun d y _ => y = V.str d) (pre := pre) (cs := p.2) (mkd := id) (keep := fun _ => true) (wk_list (f := V.str) hp'.sq (good_str _)) hB2 sN eacc pacc (by rw [filter_yes, List.map_id]; exact hn) (fun _ _ _ _ _ h => h) (fun c hc v H' Nx1 sN1 _ e _ yes no => ?_) (fun H' ys' s' e' p' => fin H' ys' s' e' (by rw [filter_yes, List.map_id] at p'; exact p'))
      subst e
      exact ⟨rfl, tyes (iteT ⟨.str c, rfl, yes _ _ rfl (.refl _) rfl⟩)⟩
    have s5' : Same H4 H5 := s5.trans (ers_same _ _)
    have nB2 := o4.none ex4 hB2
    refine ⟨.ref x, rfl, x, _, _, _, rfl, s5' _ _ ex4, cls T, na_own_nodes T, by show 1 < 1000; decide, ?_⟩
    generalize hH6 : upd H5 x (.ins (C K) dx (putF "own_nodes" (.ref B2) [("own_levels", .ref D)])) = H6
    have ex6 : H6 x = some (.ins (C K) dx [("own_levels", .ref D), ("own_nodes", .ref B2)]) := by rw [← hH6]; exact upd_same
    have o56 : Off x H5 H6 := by rw [← hH6]; exact .put
    have o46 := (Off.of (x := x) s5').trans o56
    have o6 := o4.trans o46
    have eB6 : LS (New x H H6) B2 (rs.flatMap (·.2)) := ((New.at_ nB2.2 nB2.1).trans (o56 _ _ nB2.2 e5)).trans (by rw [paired_eq pp5])
    have eD6 := New.mono o46 _ _ eD4
    have hrs6 : ∀ p ∈ rs, LS (New x H H6) p.1 p.2 := fun p hp => (hrs p hp).s (New.mono o46)
    have eD6' := New.same _ _ eD6
    -- self.own_numbers
    refine ⟨.ref x, rfl, x, _, _, _, _, rfl, ex6, cls T, na_own_levels T, rfl, D, _, rfl, sqR eD6', fun D2 hD2 => ?_⟩
    have keys : ((rs.zipIdx.flatMap fun p => p.1.2.map fun x => ((Sum.inr x : Key), V.int p.2)).map (·.1)) = ((ps.map (·.2)).map srt).flatten.map Sum.inr := by
      rw [numK_of, numK_keys, ← elv, List.map_map]
      rfl
    refine dc2G (bs := rs.zipIdx) (wk_enum (f := fun p : Addr × List Str => V.ref p.1) (sqR eD6') (good_ref _ _)) hD2 (fun p => p.1.2.map fun x => ((Sum.inr x : Key), V.int p.2)) (sz64' ?_) (by rw [keys]; exact inr_nodup va.srt.nd) (fun b hb v pre H' Nx sN eacc hn hnd ⟨t, e, eT⟩ _ fin => ?_) (fun H7 s7 e7 => ?_)
    · have h1 := congrArg List.length keys
      rw [List.length_map, List.length_map] at h1
      rw [h1]
      exact Nat.le_trans va.srt.flat (by decide)
    · subst e
      obtain ⟨⟨p, i⟩, rfl⟩ : ∃ z, b = z := ⟨_, rfl⟩
      have hp : p ∈ rs := by
        have := List.mem_zipIdx hb
        rw [this.2.2]
        exact List.getElem_mem _
      have hp' : LS H6 p.1 p.2 := (hrs6 p hp).s New.same
      refine ⟨t, _, rfl, .inl (.inl eT), rfl, _, _, rfl, _, _, rfl, rfl, rfl, ?_⟩
      refine ⟨.ref p.1, rfl, p.1, rfl, ⟨_, (hp'.s (sN.trans (ers_same _ _))).sq⟩, ?_⟩
      refine dc2In (cs := p.2) (mkd := fun x => ((Sum.inr x : Key), V.int i)) (wk_list (f := V.str) hp'.sq (good_str _)) hD2 sN eacc hn hnd (fun c hc v H' Nx1 sN1 _ e _ yes => ?_) (fun H' s' e' => fin H' s' e')
      subst e
      exact ⟨rfl, .str c, rfl, .int i, rfl, yes _ (.refl _)⟩
    have s7' : Same H6 H7 := s7.trans (ers_same _ _)
    have nD2 := o6.none ex6 hD2
    refine ⟨.ref x, rfl, x, _, _, _, rfl, s7' _ _ ex6, cls T, na_own_numbers T, by show 2 < 1000; decide, ?_⟩
    generalize hH8 : upd H7 x (.ins (C K) dx (putF "own_numbers" (.ref D2) [("own_levels", .ref D), ("own_nodes", .ref B2)])) = H8
    have ex8 : H8 x = some (.ins (C K) dx [("own_levels", .ref D), ("own_nodes", .ref B2), ("own_numbers", .ref D2)]) := by rw [← hH8]; exact upd_same
    have o78 : Off x H7 H8 := by rw [← hH8]; exact .put
    have o68 := (Off.of (x := x) s7').trans o78
    have o8 := o6.trans o68
    generalize hlv : (ps.map (·.2)).map srt = lv at keys
    have elv' : lv = rs.map (·.2) := by rw [← elv, ← hlv, List.map_map]; rfl
    have vs : Valid lv (srtL ls) := by rw [← hlv]; exact va.srt
    have eN8 : New x H H8 D2 = some (.dK (numK lv)) := ((New.at_ nD2.2 nD2.1).trans (o78 _ _ nD2.2 e7)).trans (by rw [numK_of, elv'])
    -- is_list(lines)
    have hlq : ∀ H', Off x H H' → LTQ K H' B ls := fun H' o => by
      rcases hl with ⟨qs, rfl, e, h⟩ | h
      · exact .inl ⟨qs, rfl, o _ _ (ne_of e ex (fun z => nomatch z)) e, fun z hz => o _ _ (ne_of (h z hz) ex (fun z => nomatch z)) (h z hz)⟩
      · exact .inr h
    refine ⟨.ref B, rfl, B, rfl, ?_, fun H9 s9 => ⟨true, rfl, iteF ?_⟩⟩
    · rcases hlq _ o8 with ⟨qs, _, e, _⟩ | h
      · exact .inl ⟨_, e⟩
      · exact .inr h.2.1
    have o9 := o8.trans (.of s9)
    have ex9 := s9 _ _ ex8
    have eN9 := New.mono (H := H) (Off.of (x := x) s9) _ _ eN8
    -- position = first_wrong_line(self.own_numbers, lines)
    refine ⟨.ref x, rfl, x, _, _, _, _, rfl, ex9, cls T, na_own_numbers T, rfl, .ref B, rfl, D2, B, numK lv, ls, rfl, New.same _ _ eN9, hlq _ o9, fun p hp => ?_, va.lnd, Nat.le_trans va.few (by decide), fun H10 s10 => ?_⟩
    · obtain ⟨i, r, r', h1, h2, m1, m2⟩ := vs.ok p ((srtL_perm ls).mem_iff.mpr hp)
      exact ⟨i, num_at vs.nd h1 m1, num_at vs.nd h2 m2⟩
    have o10 := o9.trans (.of s10)
    have ex10 := s10 _ _ ex9
    refine ⟨.non, rfl, rfl, false, rfl, iteF ?_⟩
    -- self.own_lines
    refine ⟨.ref B, rfl, sortLQ (hlq _ o10) fun E qs hE eqs hqs => ?_⟩
    have nE := o10.none ex10 hE
    have s11 : Same H10 (upd H10 E (.lst (qs.map fun z => .ref z.1))) := same_new hE
    have e11 : (upd H10 E (.lst (qs.map fun z => .ref z.1))) E = some (.lst (qs.map fun z => .ref z.1)) := upd_same
    generalize upd H10 E (.lst (qs.map fun z => .ref z.1)) = H11 at s11 e11 ⊢
    refine ⟨.ref x, rfl, x, _, _, _, rfl, s11 _ _ ex10, cls T, na_own_lines T, by show 3 < 1000; decide, ?_⟩
    generalize hH12 : upd H11 x (.ins (C K) dx (putF "own_lines" (.ref E) [("own_levels", .ref D), ("own_nodes", .ref B2), ("own_numbers", .ref D2)])) = H12
    have ex12 : H12 x = some (.ins (C K) dx [("own_levels", .ref D), ("own_nodes", .ref B2), ("own_numbers", .ref D2), ("own_lines", .ref E)]) := by rw [← hH12]; exact upd_same
    have o1112 : Off x H11 H12 := by rw [← hH12]; exact .put
    have o1012 := (Off.of (x := x) s11).trans o1112
    have o12 := o10.trans o1012
    have o812 : Off x H8 H12 := ((Off.of s9).trans (.of s10)).trans o1012
    have eE12 : LTp (New x H H12) E qs := by
      refine ⟨(New.at_ nE.2 nE.1).trans (o1112 _ _ nE.2 e11), fun z hz => New.tp o12 ex12 ?_⟩
      exact o1112 _ _ (ne_of (hqs z hz) ex10 (fun z => nomatch z)) (s11 _ _ (hqs z hz))
    have eL12 : LLp (New x H H12) D rs := ⟨New.mono (o68.trans o812) _ _ eD6, fun p hp => (hrs6 p hp).s (New.mono (o68.trans o812))⟩
    have eB12 : LS (New x H H12) B2 (rs.flatMap (·.2)) := eB6.s (New.mono (o68.trans o812))
    have eN12 := New.mono (H := H) o812 _ _ eN8
    -- self.want_limits()
    refine ⟨.ref x, rfl, x, dx, _, rfl, ex12, rfl, x, D, E, dx, _, lv, srtL ls, rfl, ex12, rfl, rfl, ⟨rfl, rfl, rfl, rfl⟩, LL.s ⟨rs, elv', eL12⟩ New.same, LT.s ⟨qs, eqs, eE12⟩ New.same, vs.ne, vs.tall, vs.wide, vs.few, fun H13 s13 => ?_⟩
    have o1213 : Off x H12 H13 := .of s13
    have o13 := o12.trans o1213
    have ex13 := s13 _ _ ex12
    have lvl : (srtL ls).length ≤ 200 := vs.few
    have upl : ∀ (l : Ln) (k : Str), l.length ≤ 200 → (upL l k).length ≤ 1000000 := fun l k h => by
      unfold upL
      rw [List.length_map]
      exact Nat.le_trans (List.length_filter_le _ _) (by omega)
    have dnl : ∀ (l : Ln) (k : Str), l.length ≤ 200 → (dnL l k).length ≤ 1000000 := fun l k h => by
      unfold dnL
      rw [List.length_map]
      exact Nat.le_trans (List.length_filter_le _ _) (by omega)
    -- above = {}, below = {}
    intro ab hab
    have s14 : Same H13 (upd H13 ab (.dK [])) := same_new hab
    have e14 : upd H13 ab (.dK []) ab = some (.dK []) := upd_same
    generalize upd H13 ab (.dK []) = H14 at s14 e14 ⊢
    intro be hbe
    have s15 : Same H14 (upd H14 be (.dK [])) := same_new hbe
    have e15 : upd H14 be (.dK []) be = some (.dK []) := upd_same
    generalize upd H14 be (.dK []) = H15 at s15 e15 ⊢
    have hbe13 : H13 be = none := s14.free hbe
    have nab := o13.none ex13 hab
    have nbe := o13.none ex13 hbe13
    have nabe : ab ≠ be := ne_of_none e14 hbe
    have eE13 : LTp (New x H H13) E qs := eE12.s (New.mono o1213)
    -- the loop over the lines
    have s1315 := s14.trans s15
    refine ⟨.ref x, rfl, x, _, _, _, _, rfl, s1315 _ _ ex13, cls T, na_own_lines T, rfl, E, rfl, ⟨_, sqR (s1315 _ _ (New.same _ _ eE13.1))⟩, ?_⟩
    refine forG (bs := qs) (wk_list (K := K) (f := fun z : Addr × Str × Str => V.ref z.1) (sqR (New.same _ _ eE13.1)) (good_ref _ _))
      (fun i σ H' => ∃ y9 y10 kf kg, σ = [some (.ref x), some (.ref A), some (.ref B), some .non, none, none, none, some (.ref ab), some (.ref be), y9, y10] ∧ Same H13 (ers ab (ers be H')) ∧ H' ab = some (.dK kf) ∧ H' be = some (.dK kg) ∧
        Nbd (New x H (ers ab (ers be H'))) kf (upL ((srtL ls).take i)) ∧ Nbd (New x H (ers ab (ers be H'))) kg (dnL ((srtL ls).take i)) ∧ kf.length ≤ i ∧ kg.length ≤ i)
      ⟨none, none, [], [], rfl, (s1315.ers0 hbe13).ers0 hab, s15 _ _ e14, e15, fun x => .inl ⟨rfl, rfl⟩, fun x => .inl ⟨rfl, rfl⟩, Nat.le_refl _, Nat.le_refl _⟩ (fun i σ H' ⟨_, _, _, _, _, s, _⟩ => ((s.trans (ers_same _ _)).trans (ers_same _ _)).g) ?_ ?_
    · rintro i z v σ H16 H17 ez ⟨y9, y10, kf, kg, rfl, s16, eab, ebe, nf, ng, lf, lg⟩ sm rfl
      have mz : z ∈ qs := List.mem_of_getElem? ez
      have el : (srtL ls)[i]? = some z.2 := by rw [eqs, List.getElem?_map, ez]; rfl
      have li : i < (srtL ls).length := (List.getElem?_eq_some_iff.mp el).1
      have s17 : Same H13 (ers ab (ers be H17)) := s16.trans ((sm.ers be).ers ab)
      have s17' : Same H13 H17 := (s17.trans (ers_same _ _)).trans (ers_same _ _)
      have eab7 := sm _ _ eab
      have ebe7 := sm _ _ ebe
      have tz : TP H17 z.1 z.2 := (eE13.2 z mz).s (New.same.trans s17')
      have smN : Same (New x H (ers ab (ers be H16))) (New x H (ers ab (ers be H17))) := New.mono (.of ((sm.ers be).ers ab))
      refine ⟨z.1, _, rfl, tz.sq, rfl, _, _, rfl, _, _, rfl, rfl, ?_⟩
      refine put_step (i := 7) (j := 9) (m := 10) rfl rfl rfl eab7 (nf.s smN) (New.same.trans ((ers_same _ _).trans (ers_same _ _))) (upl _ _ (by rw [List.length_take]; omega)) (sz64' (by omega)) fun K4 p o4' e4' hp lp => ?_
      have ebe4 : K4 be = some (.dK kg) := o4' _ _ nabe.symm ebe7
      have np := (o13.trans (.of s17')).none (s17' _ _ ex13) hp
      have npab : p ≠ ab := fun e => by rw [e, eab7] at hp; cases hp
      have npbe : p ≠ be := fun e => by rw [e, ebe7] at hp; cases hp
      have sK4 : Same (ers ab (ers be H17)) (ers ab (ers be K4)) := fun b o e => by
        obtain ⟨n1, e⟩ := ers_some e
        obtain ⟨n2, e⟩ := ers_some e
        rw [ers_ne n1, ers_ne n2]
        exact o4' _ _ n1 e
      have nf4 : Nbd (New x H (ers ab (ers be K4))) (putK kf (.inr z.2.1) (.ref p)) (upL ((srtL ls).take (i + 1))) := by
        refine ((nf.s smN).s (New.mono (.of sK4))).put ?_ fun y hy => ?_
        · refine (New.at_ np.2 np.1).trans ((ers_ne npab).trans ((ers_ne npbe).trans (lp.trans ?_)))
          rw [List.take_add_one, el, Option.toList_some, upL_snoc, if_pos rfl]
        · rw [List.take_add_one, el, Option.toList_some, upL_snoc, if_neg (Ne.symm hy), List.append_nil]
      refine put_step (i := 8) (j := 10) (m := 9) rfl rfl rfl ebe4 ((ng.s smN).s (New.mono (.of sK4))) (New.same.trans ((ers_same _ _).trans (ers_same _ _))) (dnl _ _ (by rw [List.length_take]; omega)) (sz64' (by omega)) fun K5 p5 o5' e5' hp5 lp5 => ?_
      have s4K : Same H13 K4 := ((s17.trans sK4).trans (ers_same _ _)).trans (ers_same _ _)
      have np5 := (o13.trans (.of s4K)).none (s4K _ _ ex13) hp5
      have np5ab : p5 ≠ ab := fun e => by rw [e, e4'] at hp5; cases hp5
      have np5be : p5 ≠ be := fun e => by rw [e, ebe4] at hp5; cases hp5
      have sK5 : Same (ers ab (ers be K4)) (ers ab (ers be K5)) := fun b o e => by
        obtain ⟨n1, e⟩ := ers_some e
        obtain ⟨n2, e⟩ := ers_some e
        rw [ers_ne n1, ers_ne n2]
        exact o5' _ _ n2 e
      refine ⟨_, _, _, _, rfl, (s17.trans sK4).trans sK5, o5' _ _ nabe e4', e5', nf4.s (New.mono (.of sK5)), ?_, Nat.le_trans putK_len (by omega), Nat.le_trans putK_len (by omega)⟩
      refine (((ng.s smN).s (New.mono (.of sK4))).s (New.mono (.of sK5))).put ?_ fun y hy => ?_
      · refine (New.at_ np5.2 np5.1).trans ((ers_ne np5ab).trans ((ers_ne np5be).trans (lp5.trans ?_)))
        rw [List.take_add_one, el, Option.toList_some, dnL_snoc, if_pos rfl]
      · rw [List.take_add_one, el, Option.toList_some, dnL_snoc, if_neg (Ne.symm hy), List.append_nil]
    · rintro σ H16 ⟨y9, y10, kf, kg, rfl, s16, eab, ebe, nf, ng, lf, lg⟩
      rw [show qs.length = (srtL ls).length by rw [eqs, List.length_map], List.take_length] at nf ng
      have s16' : Same H13 H16 := (s16.trans (ers_same _ _)).trans (ers_same _ _)
      have ex16 := s16' _ _ ex13
      have o16 := o13.trans (.of s16')
      have eB16 : LS (New x H H16) B2 (rs.flatMap (·.2)) := (eB12.s (New.mono o1213)).s (New.mono (.of s16'))
      have sN16 : Same (New x H (ers ab (ers be H16))) (New x H H16) := New.mono (.of ((ers_same _ _).trans (ers_same _ _)))
      have ndn : (rs.flatMap (·.2)).Nodup := by
        have := vs.nd
        rw [elv', ← List.flatMap_def] at this
        exact this
      -- self.own_above
      refine ⟨.ref x, rfl, x, _, _, _, _, rfl, ex16, cls T, na_own_nodes T, rfl, B2, rfl, ⟨_, sqR (New.same _ _ eB16)⟩, fun F hF => ?_⟩
      refine dcG (β := Str) (bs := rs.flatMap fun p : Addr × List Str => p.2) (key := Sum.inr) (wk_list (f := V.str) (sqR (New.same _ _ eB16)) (good_str _)) hF (sz64' (by omega)) (inr_nodup ndn) (fun y z G => ∃ p, z = .ref p ∧ LS G p (upL (srtL ls) y) ∧ H p = none ∧ p ≠ x)
        (fun y z G G' g ⟨p, e, l, n⟩ => ⟨p, e, l.s g, n⟩) (fun y hy v H' Nx sN _ ⟨acc, eacc⟩ e _ yes => ?_) (fun H17 kvs s17 e17 pp => ?_)
      · subst e
        have sN' : Same H16 H' := sN.trans (ers_same _ _)
        refine ⟨rfl, tyes (iteT ⟨.str y, rfl, .ref ab, rfl, ab, rfl, .inl ⟨_, .inl (sN' _ _ eab)⟩, .str y, rfl, Nat.zero_le _, fun q hq => ⟨_, DGet.k (k := .inr y) (same_new hq _ _ (sN' _ _ eab)), ?_⟩⟩)⟩
        have nq := (o16.trans (.of sN')).none (sN' _ _ ex16) hq
        have nqF : q ≠ F := fun e => by rw [e, eacc] at hq; cases hq
        rcases nf y with ⟨e, z⟩ | ⟨p, e, lp⟩
        · rw [e]
          exact yes _ _ (same_new hq) ⟨q, rfl, by rw [z]; exact (ers_ne nqF).trans upd_same, nq⟩
        · rw [e]
          refine yes _ _ (same_new hq) ⟨p, rfl, ?_, ?_⟩
          · exact ((lp.s sN16).s New.same).s ((sN.trans ((same_new hq).ers F)))
          · obtain ⟨n1, l1⟩ := ers_some lp
            obtain ⟨n2, l2⟩ := dropL_some l1
            refine ⟨?_, n1⟩
            rcases e0 : H p with _ | u
            · rfl
            · have h1 := o16 _ _ n1 e0
              have h2 := (ers_some (ers_some l2).2).2
              rw [h2] at h1
              cases h1
              rw [e0] at n2
              cases n2
      have s17' : Same H16 H17 := s17.trans (ers_same _ _)
      have nF := o16.none ex16 hF
      refine ⟨.ref x, rfl, x, _, _, _, rfl, s17' _ _ ex16, cls T, na_own_above T, by show 4 < 1000; decide, ?_⟩
      generalize hH18 : upd H17 x (.ins (C K) dx (putF "own_above" (.ref F) [("own_levels", .ref D), ("own_nodes", .ref B2), ("own_numbers", .ref D2), ("own_lines", .ref E)])) = H18
      have ex18 : H18 x = some (.ins (C K) dx [("own_levels", .ref D), ("own_nodes", .ref B2), ("own_numbers", .ref D2), ("own_lines", .ref E), ("own_above", .ref F)]) := by rw [← hH18]; exact upd_same
      have o1718 : Off x H17 H18 := by rw [← hH18]; exact .put
      have o1618 := (Off.of (x := x) s17').trans o1718
      have o18 := o16.trans o1618
      have eF18 : New x H H18 F = some (.dK kvs) := (New.at_ nF.2 nF.1).trans (o1718 _ _ nF.2 e17)
      have nbF : NbAt (New x H H18) kvs (rs.flatMap (·.2)) (upL (srtL ls)) := L2.Paired.mapP pp fun y kv ⟨e, p, e2, l, n0, nx⟩ => ⟨e, p, e2, (New.at_ nx n0).trans (o1718 _ _ nx ((ers_same _ _) _ _ l))⟩
      have eB18 := eB16.s (New.mono o1618)
      have ng18 : Nbd (New x H H18) kg (dnL (srtL ls)) := (ng.s sN16).s (New.mono o1618)
      have ebe18 : H18 be = some (.dK kg) := o1618 _ _ nbe.2 ebe
      -- self.own_below
      refine ⟨.ref x, rfl, x, _, _, _, _, rfl, ex18, cls T, na_own_nodes T, rfl, B2, rfl, ⟨_, sqR (New.same _ _ eB18)⟩, fun G hG => ?_⟩
      refine dcG (β := Str) (bs := rs.flatMap fun p : Addr × List Str => p.2) (key := Sum.inr) (wk_list (f := V.str) (sqR (New.same _ _ eB18)) (good_str _)) hG (sz64' (by omega)) (inr_nodup ndn) (fun y z G' => ∃ p, z = .ref p ∧ LS G' p (dnL (srtL ls) y) ∧ H p = none ∧ p ≠ x)
        (fun y z G1 G' g ⟨p, e, l, n⟩ => ⟨p, e, l.s g, n⟩) (fun y hy v H' Nx sN _ ⟨acc, eacc⟩ e _ yes => ?_) (fun H19 kvs2 s19 e19 pp2 => ?_)
      · subst e
        have sN' : Same H18 H' := sN.trans (ers_same _ _)
        refine ⟨rfl, tyes (iteT ⟨.str y, rfl, .ref be, rfl, be, rfl, .inl ⟨_, .inl (sN' _ _ ebe18)⟩, .str y, rfl, Nat.zero_le _, fun q hq => ⟨_, DGet.k (k := .inr y) (same_new hq _ _ (sN' _ _ ebe18)), ?_⟩⟩)⟩
        have nq := (o18.trans (.of sN')).none (sN' _ _ ex18) hq
        have nqF : q ≠ G := fun e => by rw [e, eacc] at hq; cases hq
        rcases ng18 y with ⟨e, z⟩ | ⟨p, e, lp⟩
        · rw [e]
          exact yes _ _ (same_new hq) ⟨q, rfl, by rw [z]; exact (ers_ne nqF).trans upd_same, nq⟩
        · rw [e]
          refine yes _ _ (same_new hq) ⟨p, rfl, ?_, ?_⟩
          · exact (lp.s New.same).s ((sN.trans ((same_new hq).ers G)))
          · obtain ⟨n1, l1⟩ := ers_some lp
            obtain ⟨n2, l2⟩ := dropL_some l1
            refine ⟨?_, n1⟩
            rcases e0 : H p with _ | u
            · rfl
            · have h1 := o18 _ _ n1 e0
              rw [l2] at h1
              cases h1
              rw [e0] at n2
              cases n2
      have s19' : Same H18 H19 := s19.trans (ers_same _ _)
      have nG := o18.none ex18 hG
      refine ⟨.ref x, rfl, x, _, _, _, rfl, s19' _ _ ex18, cls T, na_own_below T, by show 5 < 1000; decide, ?_⟩
      generalize hH20 : upd H19 x (.ins (C K) dx (putF "own_below" (.ref G) [("own_levels", .ref D), ("own_nodes", .ref B2), ("own_numbers", .ref D2), ("own_lines", .ref E), ("own_above", .ref F)])) = H20
      have ex20 : H20 x = some (.ins (C K) dx (shF D B2 D2 E F G)) := by rw [← hH20]; exact upd_same
      have o1920 : Off x H19 H20 := by rw [← hH20]; exact .put
      have o1820 := (Off.of (x := x) s19').trans o1920
      have o20 := o18.trans o1820
      have o1620 := o1618.trans o1820
      have o1220 : Off x H12 H20 := (o1213.trans (.of s16')).trans o1620
      have sF : Same (New x H H20) (dropL H H20) := ers_same _ _
      have hn2 : (mkSh (ps.map (·.2)) ls).lv = lv := hlv
      have hn3 : lv.flatten = rs.flatMap (·.2) := by rw [elv', List.flatMap_def]
      refine q _ o20 ⟨dx, D, B2, D2, E, F, G, kvs, kvs2, (dropL_at (by rw [ex]; rfl)).trans ex20, ?_, ?_, ?_, ?_, ?_, ?_, ?_, ?_⟩
      · rw [hn2]; exact LL.s ⟨rs, elv', eL12⟩ ((New.mono o1220).trans sF)
      · rw [hn2, hn3]; exact (eB16.s (New.mono o1620)).s sF
      · rw [hn2]; exact sF _ _ (New.mono o1220 _ _ eN12)
      · exact LT.s ⟨qs, eqs, eE12⟩ ((New.mono o1220).trans sF)
      · exact sF _ _ (New.mono o1820 _ _ eF18)
      · rw [hn2, hn3]; exact nbF.g ((New.mono o1820).trans sF).g
      · exact sF _ _ ((New.at_ nG.2 nG.1).trans (o1920 _ _ nG.2 e19))
      · rw [hn2, hn3]; exact L2.Paired.mapP pp2 fun y kv ⟨e, p, e2, l, n0, nx⟩ => ⟨e, p, e2, sF _ _ ((New.at_ nx n0).trans (o1920 _ _ nx ((ers_same _ _) _ _ l)))⟩
end
end U

set_option linter.all false
set_option maxRecDepth 100000
set_option maxHeartbeats 8000000
/-! Walks, fifth part: making; the small methods. -/
namespace U
open PySem PySem.Spec PyProof.Rows L2 UR
/-! ### data -/
def encS (l : List Str) : PyData := .list (l.map .str)
def encLv (lv : Lv) : PyData := .list (lv.map encS)
def encP (p : Str × Str) : PyData := .tuple [.str p.1, .str p.2]
def encLn (ln : Ln) : PyData := .list (ln.map encP)
theorem dpAll_str {K : PySem.W.Frag} {H : Hp} : ∀ l : List Str, DpAll K H (l.map V.str) (l.map .str)
  | [] => .nil
  | x :: l => .cons (.str x) (dpAll_str l)
theorem LS.dp {K : PySem.W.Frag} {H : Hp} {a : Addr} {l : List Str} (h : LS H a l) : Dp K H (.ref a) (encS l) := .lst h.sq (dpAll_str l)
theorem TP.dp {K : PySem.W.Frag} {H : Hp} {a : Addr} {p : Str × Str} (h : TP H a p) : Dp K H (.ref a) (encP p) := .tup h.sq (.cons (.str _) (.cons (.str _) .nil))
theorem LL.dp {K : PySem.W.Frag} {H : Hp} {a : Addr} {lv : Lv} (h : LL H a lv) : Dp K H (.ref a) (encLv lv) := by
  obtain ⟨ps, rfl, e, h⟩ := h
  refine .lst (sqR e) ?_
  clear e
  induction ps with
  | nil => exact .nil
  | cons p ps ih => exact .cons (LS.dp (h p List.mem_cons_self)) (ih fun q m => h q (List.mem_cons_of_mem _ m))
theorem LT.dp {K : PySem.W.Frag} {H : Hp} {a : Addr} {ln : Ln} (h : LT H a ln) : Dp K H (.ref a) (encLn ln) := by
  obtain ⟨ps, rfl, e, h⟩ := h
  refine .lst (sqR e) ?_
  clear e
  induction ps with
  | nil => exact .nil
  | cons p ps ih => exact .cons (TP.dp (h p List.mem_cons_self)) (ih fun q m => h q (List.mem_cons_of_mem _ m))
theorem eqv_strs : ∀ l m : List Str, PyData.eqvAll (l.map .str) (m.map .str) = decide (l = m)
  | [], [] => rfl
  | [], _ :: _ => rfl
  | _ :: _, [] => rfl
  | x :: l, y :: m => by
    have ih := eqv_strs l m
    simp only [List.map_cons, PyData.eqvAll, PyData.eqv, ih]
    by_cases h : x = y <;> by_cases h2 : l = m <;> simp [h, h2]
theorem eqv_S (l m : List Str) : PyData.eqv (encS l) (encS m) = decide (l = m) := by
  unfold encS
  simp only [PyData.eqv]
  exact eqv_strs l m
theorem eqv_Lv' : ∀ l m : Lv, PyData.eqvAll (l.map encS) (m.map encS) = decide (l = m)
  | [], [] => rfl
  | [], _ :: _ => rfl
  | _ :: _, [] => rfl
  | x :: l, y :: m => by
    have ih := eqv_Lv' l m
    simp only [List.map_cons, PyData.eqvAll, eqv_S, ih]
    by_cases h : x = y <;> by_cases h2 : l = m <;> simp [h, h2]
theorem eqv_Lv (l m : Lv) : PyData.eqv (encLv l) (encLv m) = decide (l = m) := by
  unfold encLv
  simp only [PyData.eqv]
  exact eqv_Lv' l m
theorem eqv_P (p q : Str × Str) : PyData.eqv (encP p) (encP q) = decide (p = q) := by
  obtain ⟨a, b⟩ := p
  obtain ⟨c, d⟩ := q
  unfold encP
  simp only [PyData.eqv, PyData.eqvAll]
  by_cases h : a = c <;> by_cases h2 : b = d <;> simp [h, h2]
theorem eqv_Ln' : ∀ l m : Ln, PyData.eqvAll (l.map encP) (m.map encP) = decide (l = m)
  | [], [] => rfl
  | [], _ :: _ => rfl
  | _ :: _, [] => rfl
  | x :: l, y :: m => by
    have ih := eqv_Ln' l m
    simp only [List.map_cons, PyData.eqvAll, eqv_P, ih]
    by_cases h : x = y <;> by_cases h2 : l = m <;> simp [h, h2]
theorem eqv_Ln (l m : Ln) : PyData.eqv (encLn l) (encLn m) = decide (l = m) := by
  unfold encLn
  simp only [PyData.eqv]
  exact eqv_Ln' l m
section
variable {α : Type} {enc : α → PyData}
theorem layAll : ∀ l : List α, (∀ a ∈ l, (enc a).canLay0 = true) → PyData.canLayAll0 (l.map enc) = true
  | [], _ => by simp [PyData.canLayAll0]
  | x :: l, h => by simp [PyData.canLayAll0, h x List.mem_cons_self, layAll l fun a m => h a (List.mem_cons_of_mem _ m)]
theorem depAll {n : Nat} (h : ∀ a, (enc a).depth ≤ n) : ∀ l : List α, PyData.depthAll (l.map enc) ≤ n
  | [] => by simp [PyData.depthAll]
  | x :: l => by
    have h1 := h x
    have h2 := depAll h l
    simp only [List.map_cons, PyData.depthAll]
    omega
theorem showAll (h : ∀ a, (enc a).showable = true) : ∀ l : List α, PyData.showableAll (l.map enc) = true
  | [] => by simp [PyData.showableAll]
  | x :: l => by simp [PyData.showableAll, h x, showAll h l]
theorem nodAll (h : ∀ a, (enc a).hasDict = false) : ∀ l : List α, PyData.hasDictAll (l.map enc) = false
  | [] => by simp [PyData.hasDictAll]
  | x :: l => by simp [PyData.hasDictAll, h x, nodAll h l]
end
theorem nameOk.ok {x : Str} (h : nameOk x = true) : PyData.strOk x = true := by
  unfold nameOk at h
  rw [Bool.and_eq_true] at h
  unfold PyData.strOk
  rw [Array.all_eq_true']
  intro c hc
  have := List.all_eq_true.mp h.2 c (by simpa using hc)
  unfold sgn at this
  rw [Bool.or_eq_true, decide_eq_true_eq, decide_eq_true_eq] at this
  rw [decide_eq_true_eq]
  omega
/-- valid names throughout -/
def NmS (l : List Str) : Prop := ∀ x ∈ l, nameOk x = true
def NmLv (lv : Lv) : Prop := ∀ r ∈ lv, NmS r
def NmP (p : Str × Str) : Prop := nameOk p.1 = true ∧ nameOk p.2 = true
def NmLn (ln : Ln) : Prop := ∀ p ∈ ln, NmP p
theorem Valid.nmLv {rows : Lv} {ls : Ln} (v : Valid rows ls) : NmLv rows := fun r m x h => v.names r m x h
theorem Valid.nmLn {rows : Lv} {ls : Ln} (v : Valid rows ls) : NmLn ls := fun p m => by
  obtain ⟨i, r, r', h1, h2, m1, m2⟩ := v.ok p m
  exact ⟨v.names r (List.mem_of_getElem? h1) _ m1, v.names r' (List.mem_of_getElem? h2) _ m2⟩
theorem lay_S {l : List Str} (h : NmS l) : (encS l).canLay0 = true := by
  unfold encS
  simp only [PyData.canLay0]
  exact layAll l fun x m => by simpa [PyData.canLay0] using nameOk.ok (h x m)
theorem dep_S (l : List Str) : (encS l).depth ≤ 1 := by
  unfold encS
  simp only [PyData.depth]
  have := depAll (enc := PyData.str) (n := 0) (fun x => by simp [PyData.depth]) l
  omega
theorem lay_P {p : Str × Str} (h : NmP p) : (encP p).canLay0 = true := by
  unfold encP
  simp [PyData.canLay0, PyData.canLayAll0, nameOk.ok h.1, nameOk.ok h.2]
theorem dep_P (p : Str × Str) : (encP p).depth ≤ 1 := by
  unfold encP
  simp [PyData.depth, PyData.depthAll]
theorem dep_Lv (lv : Lv) : (encLv lv).depth ≤ 2 := by
  unfold encLv
  simp only [PyData.depth]
  have := depAll (enc := encS) dep_S lv
  omega
theorem dep_Ln (ln : Ln) : (encLn ln).depth ≤ 2 := by
  unfold encLn
  simp only [PyData.depth]
  have := depAll (enc := encP) dep_P ln
  omega
theorem shp_S {l : List Str} (h : NmS l) : SeqAt.shaped (encS l) = true := by
  unfold SeqAt.shaped
  rw [lay_S h, decide_eq_true (Nat.le_trans (dep_S l) (by decide))]
  rfl
theorem shp_P {p : Str × Str} (h : NmP p) : SeqAt.shaped (encP p) = true := by
  unfold SeqAt.shaped
  rw [lay_P h, decide_eq_true (Nat.le_trans (dep_P p) (by decide))]
  rfl
theorem shp_Lv {lv : Lv} (h : NmLv lv) : SeqAt.shaped (encLv lv) = true := by
  have h : (encLv lv).canLay0 = true := by
    unfold encLv
    simp only [PyData.canLay0]
    exact layAll lv fun r m => lay_S (h r m)
  unfold SeqAt.shaped
  rw [h, decide_eq_true (Nat.le_trans (dep_Lv lv) (by decide))]
  rfl
theorem shp_Ln {ln : Ln} (h : NmLn ln) : SeqAt.shaped (encLn ln) = true := by
  have h : (encLn ln).canLay0 = true := by
    unfold encLn
    simp only [PyData.canLay0]
    exact layAll ln fun r m => lay_P (h r m)
  unfold SeqAt.shaped
  rw [h, decide_eq_true (Nat.le_trans (dep_Ln ln) (by decide))]
  rfl
theorem shp_str {x : Str} (h : nameOk x = true) : SeqAt.shaped (.str x) = true := by simp [SeqAt.shaped, PyData.canLay0, PyData.depth, nameOk.ok h]
theorem any_P (ln : Ln) (p : Str × Str) : ((ln.map encP).any fun z => PyData.eqv z (encP p)) = decide (p ∈ ln) := by
  induction ln with
  | nil => simp
  | cons q l ih =>
    rw [List.map_cons, List.any_cons, ih, eqv_P]
    by_cases h : q = p
    · simp [h]
    · simp [h, Ne.symm h]
theorem any_str (ln : Ln) (x : Str) : ((ln.map encP).any fun z => PyData.eqv z (.str x)) = false := by
  induction ln with
  | nil => rfl
  | cons q l ih => rw [List.map_cons, List.any_cons, ih]; rfl
/-! ### a sheet is made -/
section
variable {P : Program} {w : World} {K : PySem.W.Frag} {mg : Str → Option Value} {base : Heap} (T : TX K mg)
theorem len_init {vs : List V} {H : Hp} {Q : VK} {E : XK} (h : sp_S_init K vs H Q E) : vs.length = 3 := by
  obtain ⟨x, A, B, dx, rows, ls, rfl, _⟩ := h
  rfl
/-- where the default stands -/
abbrev dflt (K : PySem.W.Frag) : Addr := He.dflAt ("Sheet", some "__init__") 0 K
theorem tup0 (T : TX K mg) : Tup0 K (dflt K) := by
  have h := (x_all T).2.1
  unfold tup0B at h
  split at h
  · rename_i c od its n sl e
    rw [Bool.and_eq_true, decide_eq_true_eq] at h
    obtain ⟨rfl, h2⟩ := h
    have h3 : its = #[] := by simpa using h2
    subst h3
    exact ⟨⟨_, e, rfl⟩, fun H => .inr ⟨_, #[], n, e, rfl, rfl, Nat.zero_le _, .nil⟩⟩
  · cases h
include T
theorem f_S_init : Fn P w K mg base 16 (mA K "__init__") (sp_S_init K) [] := by
  obtain ⟨fd, F⟩ := dd_S_init T
  obtain ⟨ds, dv, b⟩ := F.binds1 (ps := ["self", "levels", "lines"]) 3 1 (by simp) rfl (fun T kV doc pm an cdv ct us its h1 h2 => match us, its with | [_, _, _], [_] => ⟨_, rfl, rfl⟩)
  refine ⟨fd, _, ds, F.ok sc_S_init (fun vs H Q E h => len_init h) (fun cdv A outer s H vs Q E hr h => ?_), b, dv⟩
  obtain ⟨t, h1, h2⟩ := init_body (P := P) (w := w) (base := base) T hr h
  exact ⟨t, h1.nox, h2⟩
theorem f_S_init1 : Fn P w K mg base 16 (mA K "__init__") (sp_S_init K) [.ref (dflt K)] := by
  obtain ⟨fd, F⟩ := dd_S_init T
  obtain ⟨ds, dv, b⟩ := F.binds1 (ps := ["self", "levels", "lines"]) 2 0 (by simp) rfl (fun T kV doc pm an cdv ct us its h1 h2 => match us, its with | [_, _], [_] => ⟨_, rfl, rfl⟩)
  refine ⟨fd, _, ds, F.ok sc_S_init (fun vs H Q E h => len_init h) (fun cdv A outer s H vs Q E hr h => ?_), b, dv⟩
  obtain ⟨t, h1, h2⟩ := init_body (P := P) (w := w) (base := base) T hr h
  exact ⟨t, h1.nox, h2⟩
omit T
/-- Sheet(levels, lines), as its caller meets it -/
theorem mkq {H1 : Hp} {A B : Addr} {rows : Lv} {ls : Ln} {Q : VK} (hA : LL H1 A rows) (hB : LTQ K H1 B ls) (v : Valid rows ls) (q : ∀ x H', Same H1 H' → H1 x = none → SheetAt K (dropL H1 H') x (mkSh rows ls) → Q (.ref x) H') :
    ∀ x dx, H1 x = none → H1 dx = none → dx ≠ x → sp_S_init K [.ref x, .ref A, .ref B] (upd (upd H1 dx (.own x)) x (.ins (C K) dx [])) (fun v H2 => v = .non ∧ Q (.ref x) H2) E0 := by
  intro x dx hx hdx ne
  have s1 : Same H1 (upd (upd H1 dx (.own x)) x (.ins (C K) dx [])) := (same_new hdx).trans (same_new (by rw [upd_ne (Ne.symm ne)]; exact hx))
  refine ⟨x, A, B, dx, rows, ls, rfl, upd_same, hA.s s1, ?_, v, fun H' o hs => ⟨rfl, q x H' (Same.made hx hdx fun b o' e n => o b o' n e) hx (hs.s (dropL_mono s1))⟩⟩
  rcases hB with h | h
  · exact .inl (h.s s1)
  · exact .inr h
theorem mkq2 {H1 : Hp} {A B : Addr} {rows : Lv} {ls : Ln} {Q : Addr → Hp → Prop} (hA : LL H1 A rows) (hB : LTQ K H1 B ls) (v : Valid rows ls) (q : ∀ x H', Same H1 H' → H1 x = none → SheetAt K (dropL H1 H') x (mkSh rows ls) → Q x H') :
    ∀ x dx, H1 x = none → H1 dx = none → dx ≠ x → sp_S_init K [.ref x, .ref A, .ref B] (upd (upd H1 dx (.own x)) x (.ins (C K) dx [])) (fun v H2 => v = .non ∧ Q x H2) E0 :=
  mkq (Q := fun v H2 => match v with | .ref x => Q x H2 | _ => False) hA hB v q
end
end U

set_option linter.all false
set_option maxRecDepth 100000
set_option maxHeartbeats 8000000
/-! Walks, sixth part: the small methods. -/
namespace U
open PySem PySem.Spec PyProof.Rows L2 UR
theorem num_none {lv : Lv} {x : Str} (h : x ∉ lv.flatten) : valV (numK lv) (.inr x) = none := valV_none (by rw [numK_keys]; exact fun m => h (inr_mem m))
theorem flat_mem {lv : List (List Str)} {i : Nat} {r : List Str} {x : Str} (h : lv[i]? = some r) (m : x ∈ r) : x ∈ lv.flatten := List.mem_flatten.mpr ⟨r, List.mem_of_getElem? h, m⟩
theorem flat_ix {lv : Lv} {x : Str} (h : x ∈ lv.flatten) : ∃ (i : Nat) (r : List Str), lv[i]? = some r ∧ x ∈ r := by
  obtain ⟨r, m, hx⟩ := List.mem_flatten.mp h
  obtain ⟨i, hi, e⟩ := List.getElem_of_mem m
  exact ⟨i, r, by rw [List.getElem?_eq_getElem hi, e], hx⟩
theorem num_some {lv : Lv} {x : Str} (nd : lv.flatten.Nodup) : (valV (numK lv) (.inr x)).isSome = decide (x ∈ lv.flatten) := by
  by_cases h : x ∈ lv.flatten
  · obtain ⟨i, r, e, m⟩ := flat_ix h
    rw [num_at nd e m, decide_eq_true h]
    rfl
  · rw [num_none h, decide_eq_false h]
    rfl
theorem NbAt.get {H : Hp} {kvs : List (Key × V)} {nodes : List Str} {nb : Str → List Str} {x : Str} (nd : nodes.Nodup) (h : NbAt H kvs nodes nb) (m : x ∈ nodes) : ∃ p, valV kvs (.inr x) = some (.ref p) ∧ LS H p (nb x) := by
  have keys : kvs.map (·.1) = nodes.map Sum.inr := by
    clear nd m
    unfold NbAt at h
    induction h with
    | nil => rfl
    | cons r t ih => rw [List.map_cons, List.map_cons, r.1, ih]
  have : ∃ p, (Sum.inr x, V.ref p) ∈ kvs ∧ LS H p (nb x) := by
    clear nd keys
    unfold NbAt at h
    induction h with
    | nil => cases m
    | @cons y kv ys kvs r t ih =>
      rcases List.mem_cons.mp m with rfl | m
      · obtain ⟨e1, p, e2, l⟩ := r
        exact ⟨p, by rw [← e1, ← e2]; exact List.mem_cons_self, l⟩
      · obtain ⟨p, q, l⟩ := ih m
        exact ⟨p, List.mem_cons_of_mem _ q, l⟩
  obtain ⟨p, q, l⟩ := this
  exact ⟨p, valV_at (by rw [keys]; exact inr_nodup nd) q, l⟩
section
variable {P : Program} {w : World} {K : PySem.W.Frag} {mg : Str → Option Value} {base : Heap} (T : TX K mg)
include T
def sp_S_len (K : PySem.W.Frag) : Sp := fun vs H Q _ => ∃ (a : Addr) (S : Sh), vs = [.ref a] ∧ SheetAt K H a S ∧ Q (.int S.lv.length) H
theorem f_S_len : Fn P w K mg base 1 (mA K "__len__") (sp_S_len K) [] := by
  obtain ⟨fd, F⟩ := dd_S_len T
  have nd := sc_S_len.nd
  refine fnD F (F.bindsN fun _ _ _ _ _ _ us hl => match us, hl with | [_], _ => rfl) sc_S_len (fun vs H Q E h => ?_) (fun cdv A outer s H vs Q E hr h => ?_)
  · obtain ⟨a, S, rfl, _⟩ := h; rfl
  · obtain ⟨a, S, rfl, ⟨dx, A, B, D, E, F, G, kf, kg, ex, ⟨ps, e, eA, _⟩, _⟩, q⟩ := h
    refine ⟨_, PSs.nox ((pss_one (ps_ret (pe_callB (k_len (K := K) rfl) rfl (b_len T) PySem.boot_len (pa_cons (k_fld (K := K) rfl (pv 0)) pa_nil))))), ?_⟩
    refine ⟨.ref a, rfl, a, _, _, _, _, rfl, ex, cls T, na_own_levels T, rfl, A, _, rfl, .inl (sqR eA), ?_⟩
    rw [e, List.length_map] at q
    rw [List.length_map]
    exact q
omit T in
/-- len(s) as its callers meet it -/
theorem lenq {H : Hp} {a : Addr} {S : Sh} {Q : VK} (h : SheetAt K H a S) (z : S.lv.length ≤ 1000000) (q : Q (.int S.lv.length) H) : rLenOwn (C K) (sp_S_len K) [.ref a] H Q :=
  ⟨a, rfl, h.ins, a, S, rfl, h, S.lv.length, rfl, Int.natCast_nonneg _, by omega, q⟩
def sp_has_level (K : PySem.W.Frag) : Sp := fun vs H Q _ => ∃ (a : Addr) (S : Sh) (n : Nat), vs = [.ref a, .int n] ∧ SheetAt K H a S ∧ n < S.lv.length ∧ S.lv.length ≤ 1000000 ∧ Q (.bl true) H
theorem f_has_level : Fn P w K mg base 11 (fA K "has_level") (sp_has_level K) [] := by
  obtain ⟨fd, F⟩ := dd_has_level T
  have nd := sc_has_level.nd
  refine fnD F (F.bindsN fun _ _ _ _ _ _ us hl => match us, hl with | [_, _], _ => rfl) sc_has_level (fun vs H Q E h => ?_) (fun cdv A outer s H vs Q E hr h => ?_)
  · obtain ⟨a, S, n, rfl, _⟩ := h; rfl
  · obtain ⟨a, S, n, rfl, hS, hn, hz, q⟩ := h
    refine ⟨_, PSs.nox ((pss_one (ps_ret (pe_and (pe_f (f_is_count T) hr (by decide) rfl (g_is_count T) (kp_is_count T) (pa_cons (pv 1) pa_nil)) (pe_one (pe_cmpR op_lt (pv 1) (pe_callB (call_len_own (f_S_len T) (hr.mono (by decide)) (m_S_len T)) rfl (b_len T) PySem.boot_len (pa_cons (pv 0) pa_nil)) (nomark _))))))), ?_⟩
    refine ⟨.int n, rfl, n, rfl, true, blT (Int.natCast_nonneg n), iteT ?_⟩
    refine ⟨.int n, rfl, .ref a, rfl, lenq hS hz ⟨_, _, rfl, rfl, qT (Q := Q) (by omega) q⟩⟩
def sp_want_level (K : PySem.W.Frag) : Sp := fun vs H Q _ => ∃ (a : Addr) (S : Sh) (n : Nat), vs = [.ref a, .int n] ∧ SheetAt K H a S ∧ n < S.lv.length ∧ S.lv.length ≤ 1000000 ∧ Q .non H
theorem f_want_level : Fn P w K mg base 16 (fA K "want_level") (sp_want_level K) [] := by
  obtain ⟨fd, F⟩ := dd_want_level T
  have nd := sc_want_level.nd
  refine fnD F (F.bindsN fun _ _ _ _ _ _ us hl => match us, hl with | [_, _], _ => rfl) sc_want_level (fun vs H Q E h => ?_) (fun cdv A outer s H vs Q E hr h => ?_)
  · obtain ⟨a, S, n, rfl, _⟩ := h; rfl
  · obtain ⟨a, S, n, rfl, hS, hn, hz, q⟩ := h
    refine ⟨_, PSs.nox ((pss_one (ps_if (pt_not (pt_val (pe_f (f_has_level T) hr (by decide) rfl (g_has_level T) (kp_has_level T) (pa_cons (pv 0) (pa_cons (pv 1) pa_nil)))))
  (pss_one ps_never)
  pss_nil))), ?_⟩
    exact ⟨.ref a, rfl, .int n, rfl, a, S, n, rfl, hS, hn, hz, true, rfl, iteF q⟩
def sp_is_node (K : PySem.W.Frag) : Sp := fun vs H Q _ => ∃ (a : Addr) (S : Sh), SheetAt K H a S ∧ S.lv.flatten.Nodup ∧ ((∃ x : Str, vs = [.ref a, .str x] ∧ Q (.bl (decide (x ∈ S.lv.flatten))) H) ∨ ∃ t p, vs = [.ref a, .ref t] ∧ TP H t p ∧ Q (.bl false) H)
theorem f_is_node : Fn P w K mg base 1 (fA K "is_node") (sp_is_node K) [] := by
  obtain ⟨fd, F⟩ := dd_is_node T
  have nd := sc_is_node.nd
  refine fnD F (F.bindsN fun _ _ _ _ _ _ us hl => match us, hl with | [_, _], _ => rfl) sc_is_node (fun vs H Q E h => ?_) (fun cdv A outer s H vs Q E hr h => ?_)
  · obtain ⟨a, S, _, _, ⟨x, rfl, _⟩ | ⟨t, p, rfl, _⟩⟩ := h <;> rfl
  · obtain ⟨a, S, ⟨dx, A, B, D, E, F, G, kf, kg, ex, _, _, eD, _⟩, nd', h⟩ := h
    have hu := hu_of hr
    refine ⟨_, PSs.nox ((pss_one (ps_ret (pe_and (pe_callB (k_isi (K := K) rfl) rfl (b_isinstance T) (by decide +kernel) (pa_cons (pv 1) (pa_cons (pe_bltn (v := .ty "str") rfl (b_str T) (by decide +kernel) rfl) pa_nil))) (pe_one (pe_cmp (pc_din hu (pv 1) (k_fld (K := K) rfl (pv 0))) rfl)))))), ?_⟩
    rcases h with ⟨x, rfl, q⟩ | ⟨t, p, rfl, ht, q⟩
    · refine ⟨.str x, rfl, isi_ty (.base (.str x)) (by decide +kernel) ⟨true, rfl, iteT ?_⟩⟩
      have dg := DGet.k (k := .inr x) eD
      refine ⟨.str x, rfl, .ref a, rfl, a, _, _, _, _, rfl, ex, cls T, na_own_numbers T, rfl, D, _, rfl, dg, ?_⟩
      rw [num_some nd']
      exact q
    · exact ⟨.ref t, rfl, isi_ty (.base (.tup ht)) (by decide +kernel) ⟨false, rfl, iteF q⟩⟩
def sp_want_node (K : PySem.W.Frag) : Sp := fun vs H Q _ => ∃ (a : Addr) (S : Sh) (x : Str), vs = [.ref a, .str x] ∧ SheetAt K H a S ∧ S.lv.flatten.Nodup ∧ x ∈ S.lv.flatten ∧ Q .non H
theorem f_want_node : Fn P w K mg base 6 (fA K "want_node") (sp_want_node K) [] := by
  obtain ⟨fd, F⟩ := dd_want_node T
  have nd := sc_want_node.nd
  refine fnD F (F.bindsN fun _ _ _ _ _ _ us hl => match us, hl with | [_, _], _ => rfl) sc_want_node (fun vs H Q E h => ?_) (fun cdv A outer s H vs Q E hr h => ?_)
  · obtain ⟨a, S, x, rfl, _⟩ := h; rfl
  · obtain ⟨a, S, x, rfl, hS, hn, hx, q⟩ := h
    refine ⟨_, PSs.nox ((pss_one (ps_if (pt_not (pt_val (pe_f (f_is_node T) hr (by decide) rfl (g_is_node T) (kp_is_node T) (pa_cons (pv 0) (pa_cons (pv 1) pa_nil)))))
  (pss_one ps_never)
  pss_nil))), ?_⟩
    exact ⟨.ref a, rfl, .str x, rfl, a, S, hS, hn, .inl ⟨x, rfl, true, blT hx, iteF q⟩⟩
def sp_S_can_be_line (K : PySem.W.Frag) : Sp := fun vs H Q _ => ∃ (a t : Addr) (S : Sh) (p : Str × Str), vs = [.ref a, .ref t] ∧ SheetAt K H a S ∧ TP H t p ∧ S.lv.flatten.Nodup ∧ Beside S.lv p ∧ ∀ H', Same H H' → Q (.bl true) H'
theorem f_S_can_be_line : Fn P w K mg base 11 (mA K "can_be_line") (sp_S_can_be_line K) [] := by
  obtain ⟨fd, F⟩ := dd_S_can_be_line T
  have nd := sc_S_can_be_line.nd
  refine fnD F (F.bindsN fun _ _ _ _ _ _ us hl => match us, hl with | [_, _], _ => rfl) sc_S_can_be_line (fun vs H Q E h => ?_) (fun cdv A outer s H vs Q E hr h => ?_)
  · obtain ⟨a, t, S, p, rfl, _⟩ := h; rfl
  · obtain ⟨a, t, S, p, rfl, ⟨dx, A, B, D, E, F, G, kf, kg, ex, _, _, eD, _⟩, ht, nd', ⟨i, r, r', h1, h2, m1, m2⟩, q⟩ := h
    refine ⟨_, PSs.nox ((pss_one (ps_ret (pe_f (f_is_line_beside T) hr (by decide) rfl (g_is_line_beside T) (kp_is_line_beside T) (pa_cons (k_fld (K := K) rfl (pv 0)) (pa_cons (pv 1) pa_nil)))))), ?_⟩
    exact ⟨.ref a, rfl, a, _, _, _, _, rfl, ex, cls T, na_own_numbers T, rfl, .ref t, rfl, D, t, _, p, i, rfl, eD, ht, num_at nd' h1 m1, num_at nd' h2 m2, q⟩
def sp_S_level_of (K : PySem.W.Frag) : Sp := fun vs H Q _ => ∃ (a : Addr) (S : Sh) (x : Str) (i : Nat) (r : List Str), vs = [.ref a, .str x] ∧ SheetAt K H a S ∧ S.lv.flatten.Nodup ∧ S.lv[i]? = some r ∧ x ∈ r ∧ Q (.int i) H
theorem f_S_level_of : Fn P w K mg base 11 (mA K "level_of") (sp_S_level_of K) [] := by
  obtain ⟨fd, F⟩ := dd_S_level_of T
  have nd := sc_S_level_of.nd
  refine fnD F (F.bindsN fun _ _ _ _ _ _ us hl => match us, hl with | [_, _], _ => rfl) sc_S_level_of (fun vs H Q E h => ?_) (fun cdv A outer s H vs Q E hr h => ?_)
  · obtain ⟨a, S, x, i, r, rfl, _⟩ := h; rfl
  · obtain ⟨a, S, x, i, r, rfl, hS, hn, hi, hx, q⟩ := h
    have hu := hu_of hr
    refine ⟨_, PSs.nox ((pss_cons (ps_expr (pe_f (f_want_node T) hr (by decide) rfl (g_want_node T) (kp_want_node T) (pa_cons (pv 0) (pa_cons (pv 1) pa_nil))))
  (pss_one (ps_ret (pe_dget hu (k_fld (K := K) rfl (pv 0)) (pv 1) (fun _ _ => rfl)))))), ?_⟩
    refine ⟨.ref a, rfl, .str x, rfl, a, S, x, rfl, hS, hn, flat_mem hi hx, ?_⟩
    obtain ⟨dx, A, B, D, E, F, G, kf, kg, ex, _, _, eD, _⟩ := hS
    have dg := DGet.k (k := .inr x) eD
    rw [num_at hn hi hx] at dg
    exact ⟨.ref a, rfl, a, _, _, _, _, rfl, ex, cls T, na_own_numbers T, rfl, .str x, rfl, D, _, rfl, dg, q⟩
def sp_S_above (K : PySem.W.Frag) : Sp := fun vs H Q _ => ∃ (a : Addr) (S : Sh) (x : Str), vs = [.ref a, .str x] ∧ SheetAt K H a S ∧ S.lv.flatten.Nodup ∧ x ∈ S.lv.flatten ∧ ∀ H' p, Same H H' → H p = none → LS H' p (upL S.ln x) → Q (.ref p) H'
theorem f_S_above : Fn P w K mg base 11 (mA K "above") (sp_S_above K) [] := by
  obtain ⟨fd, F⟩ := dd_S_above T
  have nd := sc_S_above.nd
  refine fnD F (F.bindsN fun _ _ _ _ _ _ us hl => match us, hl with | [_, _], _ => rfl) sc_S_above (fun vs H Q E h => ?_) (fun cdv A outer s H vs Q E hr h => ?_)
  · obtain ⟨a, S, x, rfl, _⟩ := h; rfl
  · obtain ⟨a, S, x, rfl, hS, hn, hx, q⟩ := h
    have hu := hu_of hr
    refine ⟨_, PSs.nox ((pss_cons (ps_expr (pe_f (f_want_node T) hr (by decide) rfl (g_want_node T) (kp_want_node T) (pa_cons (pv 0) (pa_cons (pv 1) pa_nil))))
  (pss_one (ps_ret (pe_callTy (k_list (K := K) rfl) rfl (b_list T) (by decide +kernel) (pa_cons (pe_dget hu (k_fld (K := K) rfl (pv 0)) (pv 1) (fun _ _ => rfl)) pa_nil)))))), ?_⟩
    refine ⟨.ref a, rfl, .str x, rfl, a, S, x, rfl, hS, hn, hx, ?_⟩
    obtain ⟨dx, A, B, D, E, F, G, kf, kg, ex, _, _, _, _, eF, nF, _⟩ := hS
    obtain ⟨p, hp, lp⟩ := nF.get hn hx
    have dg := DGet.k (k := .inr x) eF
    rw [hp] at dg
    exact ⟨.ref a, rfl, a, _, _, _, _, rfl, ex, cls T, na_own_above T, rfl, .str x, rfl, F, _, rfl, dg, p, _, rfl, .inl lp.sq, fun l hl => q _ _ (same_new hl) hl upd_same⟩
def sp_S_below (K : PySem.W.Frag) : Sp := fun vs H Q _ => ∃ (a : Addr) (S : Sh) (x : Str), vs = [.ref a, .str x] ∧ SheetAt K H a S ∧ S.lv.flatten.Nodup ∧ x ∈ S.lv.flatten ∧ ∀ H' p, Same H H' → H p = none → LS H' p (dnL S.ln x) → Q (.ref p) H'
theorem f_S_below : Fn P w K mg base 11 (mA K "below") (sp_S_below K) [] := by
  obtain ⟨fd, F⟩ := dd_S_below T
  have nd := sc_S_below.nd
  refine fnD F (F.bindsN fun _ _ _ _ _ _ us hl => match us, hl with | [_, _], _ => rfl) sc_S_below (fun vs H Q E h => ?_) (fun cdv A outer s H vs Q E hr h => ?_)
  · obtain ⟨a, S, x, rfl, _⟩ := h; rfl
  · obtain ⟨a, S, x, rfl, hS, hn, hx, q⟩ := h
    have hu := hu_of hr
    refine ⟨_, PSs.nox ((pss_cons (ps_expr (pe_f (f_want_node T) hr (by decide) rfl (g_want_node T) (kp_want_node T) (pa_cons (pv 0) (pa_cons (pv 1) pa_nil))))
  (pss_one (ps_ret (pe_callTy (k_list (K := K) rfl) rfl (b_list T) (by decide +kernel) (pa_cons (pe_dget hu (k_fld (K := K) rfl (pv 0)) (pv 1) (fun _ _ => rfl)) pa_nil)))))), ?_⟩
    refine ⟨.ref a, rfl, .str x, rfl, a, S, x, rfl, hS, hn, hx, ?_⟩
    obtain ⟨dx, A, B, D, E, F, G, kf, kg, ex, _, _, _, _, _, _, eG, nG⟩ := hS
    obtain ⟨p, hp, lp⟩ := nG.get hn hx
    have dg := DGet.k (k := .inr x) eG
    rw [hp] at dg
    exact ⟨.ref a, rfl, a, _, _, _, _, rfl, ex, cls T, na_own_below T, rfl, .str x, rfl, G, _, rfl, dg, p, _, rfl, .inl lp.sq, fun l hl => q _ _ (same_new hl) hl upd_same⟩
def sp_S_lines (K : PySem.W.Frag) : Sp := fun vs H Q _ => ∃ (a : Addr) (S : Sh), vs = [.ref a] ∧ SheetAt K H a S ∧ ∀ H' p, Same H H' → H p = none → LT H' p S.ln → Q (.ref p) H'
theorem f_S_lines : Fn P w K mg base 1 (mA K "lines") (sp_S_lines K) [] := by
  obtain ⟨fd, F⟩ := dd_S_lines T
  have nd := sc_S_lines.nd
  refine fnD F (F.bindsN fun _ _ _ _ _ _ us hl => match us, hl with | [_], _ => rfl) sc_S_lines (fun vs H Q E h => ?_) (fun cdv A outer s H vs Q E hr h => ?_)
  · obtain ⟨a, S, rfl, _⟩ := h; rfl
  · obtain ⟨a, S, rfl, ⟨dx, A, B, D, E, F, G, kf, kg, ex, _, _, _, ⟨qs, e, eE, hqs⟩, _⟩, q⟩ := h
    refine ⟨_, PSs.nox ((pss_one (ps_ret (pe_callTy (k_list (K := K) rfl) rfl (b_list T) (by decide +kernel) (pa_cons (k_fld (K := K) rfl (pv 0)) pa_nil))))), ?_⟩
    exact ⟨.ref a, rfl, a, _, _, _, _, rfl, ex, cls T, na_own_lines T, rfl, E, _, rfl, .inl (sqR eE), fun l hl => q _ _ (same_new hl) hl ⟨qs, e, upd_same, fun z hz => (hqs z hz).s (same_new hl)⟩⟩
def sp_S_level (K : PySem.W.Frag) : Sp := fun vs H Q _ => ∃ (a : Addr) (S : Sh) (n : Nat) (r : List Str), vs = [.ref a, .int n] ∧ SheetAt K H a S ∧ S.lv.length ≤ 1000000 ∧ S.lv[n]? = some r ∧ ∀ H' p, Same H H' → H p = none → LS H' p r → Q (.ref p) H'
theorem f_S_level : Fn P w K mg base 21 (mA K "level") (sp_S_level K) [] := by
  obtain ⟨fd, F⟩ := dd_S_level T
  have nd := sc_S_level.nd
  refine fnD F (F.bindsN fun _ _ _ _ _ _ us hl => match us, hl with | [_, _], _ => rfl) sc_S_level (fun vs H Q E h => ?_) (fun cdv A outer s H vs Q E hr h => ?_)
  · obtain ⟨a, S, n, r, rfl, _⟩ := h; rfl
  · obtain ⟨a, S, n, r, rfl, hS, hz, hn, q⟩ := h
    refine ⟨_, PSs.nox ((pss_cons (ps_expr (pe_f (f_want_level T) hr (by decide) rfl (g_want_level T) (kp_want_level T) (pa_cons (pv 0) (pa_cons (pv 1) pa_nil))))
  (pss_one (ps_ret (pe_callTy (k_list (K := K) rfl) rfl (b_list T) (by decide +kernel) (pa_cons (pe_ix (k_ixl (K := K) rfl) (k_fld (K := K) rfl (pv 0)) (pv 1) (fun _ _ => rfl)) pa_nil)))))), ?_⟩
    refine ⟨.ref a, rfl, .int n, rfl, a, S, n, rfl, hS, (List.getElem?_eq_some_iff.mp hn).1, hz, ?_⟩
    obtain ⟨dx, A, B, D, E, F, G, kf, kg, ex, ⟨ps, e, eA, hps⟩, _⟩ := hS
    rw [e, List.getElem?_map] at hn
    obtain ⟨z, hz', rfl⟩ := Option.map_eq_some_iff.mp hn
    refine ⟨.ref a, rfl, a, _, _, _, _, rfl, ex, cls T, na_own_levels T, rfl, .int n, rfl, A, _, n, .ref z.1, rfl, rfl, sqR eA, atI_nat (by rw [List.getElem?_map, hz']; rfl), ?_⟩
    exact ⟨z.1, _, rfl, .inl (hps z (List.mem_of_getElem? hz')).sq, fun l hl => q _ _ (same_new hl) hl upd_same⟩
def sp_S_iter (K : PySem.W.Frag) : Sp := fun vs H Q _ => ∃ (a : Addr) (S : Sh), vs = [.ref a] ∧ SheetAt K H a S ∧ ∀ l it, (∃ dx A D E F G, H a = some (.ins (C K) dx (shF A l D E F G))) → LS H l S.lv.flatten → H it = none → Q (.ref it) (upd H it (ItO l it 0))
theorem f_S_iter : Fn P w K mg base 1 (mA K "__iter__") (sp_S_iter K) [] := by
  obtain ⟨fd, F⟩ := dd_S_iter T
  have nd := sc_S_iter.nd
  refine fnD F (F.bindsN fun _ _ _ _ _ _ us hl => match us, hl with | [_], _ => rfl) sc_S_iter (fun vs H Q E h => ?_) (fun cdv A outer s H vs Q E hr h => ?_)
  · obtain ⟨a, S, rfl, _⟩ := h; rfl
  · obtain ⟨a, S, rfl, ⟨dx, A, B, D, E, F, G, kf, kg, ex, _, eB, _⟩, q⟩ := h
    refine ⟨_, PSs.nox ((pss_one (ps_ret (pe_callB (k_iter (K := K) rfl) rfl (b_iter T) (by decide +kernel) (pa_cons (k_fld (K := K) rfl (pv 0)) pa_nil))))), ?_⟩
    exact ⟨.ref a, rfl, a, _, _, _, _, rfl, ex, cls T, na_own_nodes T, rfl, B, _, rfl, eB.sq, fun it hit => q B it ⟨dx, A, D, E, F, G, ex⟩ eB hit⟩
omit T in
/-- list(o): its nodes -/
theorem listq {H : Hp} {a : Addr} {S : Sh} {Q : VK} (h : SheetAt K H a S) (z : S.lv.length ≤ 1000000) (q : ∀ H' p, Same H H' → H p = none → LS H' p S.lv.flatten → Q (.ref p) H') : rListOwn K (C K) (sp_S_iter K) (sp_S_len K) [.ref a] H Q := by
  refine ⟨a, rfl, h.ins, fun p hp => ?_⟩
  obtain ⟨dx0, A0, B0, D0, E0, F0, G0, kf0, kg0, ex0, _, eB0, _⟩ := id h
  have s1 := same_new hp (o := .lst [])
  refine ⟨a, S, rfl, h.s s1, fun l it ⟨dx, A, D, E, F, G, e1⟩ hl hit => ?_⟩
  have s2 := same_new hit (o := ItO l it 0)
  have el : l = B0 := by
    rw [s1 _ _ ex0] at e1
    injection e1 with e1
    injection e1 with _ _ e1
    injection e1 with _ e1
    injection e1 with e1
    injection e1 with _ e1
    injection e1 with e1
    exact e1.symm
  subst el
  have nlp : l ≠ p := ne_of_none eB0 hp
  have nlt : l ≠ it := ne_of_none (s1 _ _ eB0) hit
  refine ⟨it, l, S.lv.flatten.map .str, rfl, upd_same, s2 _ _ upd_same, ((h.s s1).s s2).ins, a, S, rfl, (h.s s1).s s2, S.lv.length, rfl, sz64 z, upd_same, s2 _ _ upd_same, sqR (s2 _ _ hl), nlp, nlt, fun H3 h3 e3 => ?_⟩
  refine q H3 p (fun b o e => ?_) hp e3
  have n1 : b ≠ p := ne_of_none e hp
  have n2 : b ≠ it := ne_of_none (s1 _ _ e) hit
  rw [h3 b n1 n2]
  exact s2 _ _ (s1 _ _ e)
def sp_S_contains (K : PySem.W.Frag) : Sp := fun vs H Q _ => ∃ (a : Addr) (S : Sh), SheetAt K H a S ∧ S.lv.flatten.Nodup ∧ NmLn S.ln ∧ ((∃ x : Str, vs = [.ref a, .str x] ∧ nameOk x = true ∧ Q (.bl (decide (x ∈ S.lv.flatten))) H) ∨ ∃ t p, vs = [.ref a, .ref t] ∧ TP H t p ∧ NmP p ∧ Q (.bl (decide (p ∈ S.ln))) H)
theorem f_S_contains : Fn P w K mg base 6 (mA K "__contains__") (sp_S_contains K) [] := by
  obtain ⟨fd, F⟩ := dd_S_contains T
  have nd := sc_S_contains.nd
  refine fnD F (F.bindsN fun _ _ _ _ _ _ us hl => match us, hl with | [_, _], _ => rfl) sc_S_contains (fun vs H Q E h => ?_) (fun cdv A outer s H vs Q E hr h => ?_)
  · obtain ⟨a, S, _, _, _, ⟨x, rfl, _⟩ | ⟨t, p, rfl, _⟩⟩ := h <;> rfl
  · obtain ⟨a, S, hS, hn, hm, h⟩ := h
    have hS' := hS
    obtain ⟨dx, A, B, D, E, F, G, kf, kg, ex, _, _, _, hE, _⟩ := hS'
    have hu65 := hu65_of hr
    refine ⟨_, PSs.nox ((pss_one (ps_ret (pe_or (pe_f (f_is_node T) hr (by decide) rfl (g_is_node T) (kp_is_node T) (pa_cons (pv 0) (pa_cons (pv 1) pa_nil))) (pe_one (pe_cmpR (k_inD (K := K) rfl hu65) (pv 1) (k_fld (K := K) rfl (pv 0)) (by with_unfolding_all rfl))))))), ?_⟩
    rcases h with ⟨x, rfl, hx, q⟩ | ⟨t, p, rfl, ht, hp, q⟩
    · refine ⟨.ref a, rfl, .str x, rfl, a, S, hS, hn, .inl ⟨x, rfl, decide (x ∈ S.lv.flatten), rfl, ?_⟩⟩
      by_cases m : x ∈ S.lv.flatten
      · rw [decide_eq_true m] at q ⊢
        exact iteT q
      · rw [decide_eq_false m] at q ⊢
        refine iteF ⟨.str x, rfl, .ref a, rfl, a, _, _, _, _, rfl, ex, cls T, na_own_lines T, rfl, .str x, _, .str x, (LT.dp hE), shp_str hx, shp_Ln hm, ?_⟩
        rw [any_str]
        exact q
    · refine ⟨.ref a, rfl, .ref t, rfl, a, S, hS, hn, .inr ⟨t, p, rfl, ht, false, rfl, iteF ?_⟩⟩
      refine ⟨.ref t, rfl, .ref a, rfl, a, _, _, _, _, rfl, ex, cls T, na_own_lines T, rfl, encP p, _, (TP.dp ht), (LT.dp hE), shp_P hp, shp_Ln hm, ?_⟩
      rw [any_P]
      exact q
def sp_S_eq (K : PySem.W.Frag) : Sp := fun vs H Q _ => ∃ (a b : Addr) (S S' : Sh), vs = [.ref a, .ref b] ∧ SheetAt K H a S ∧ SheetAt K H b S' ∧ (NmLv S.lv ∧ NmLn S.ln) ∧ (NmLv S'.lv ∧ NmLn S'.ln) ∧ Q (.bl (decide (S = S'))) H
theorem f_S_eq : Fn P w K mg base 1 (mA K "__eq__") (sp_S_eq K) [] := by
  obtain ⟨fd, F⟩ := dd_S_eq T
  have nd := sc_S_eq.nd
  refine fnD F (F.bindsN fun _ _ _ _ _ _ us hl => match us, hl with | [_, _], _ => rfl) sc_S_eq (fun vs H Q E h => ?_) (fun cdv A outer s H vs Q E hr h => ?_)
  · obtain ⟨a, b, S, S', rfl, _⟩ := h; rfl
  · obtain ⟨a, b, S, S', rfl, ⟨dx, A, B, D, E, F, G, kf, kg, ex, hA, _, _, hE, _⟩, ⟨dx', A', B', D', E', F', G', kf', kg', ex', hA', _, _, hE', _⟩, ⟨m1, m2⟩, ⟨m3, m4⟩, q⟩ := h
    refine ⟨_, PSs.nox ((pss_cons (ps_if (pt_not (pt_val (pe_callB (k_isi (K := K) rfl) rfl (b_isinstance T) (by decide +kernel) (pa_cons (pv 1) (pa_cons (pe_glob (v := .ref (C K)) rfl (g_Sheet T) rfl) pa_nil)))))
  (pss_one (ps_ret pe_bl))
  pss_nil)
  (pss_one (ps_ret (pe_and (pe_cmpR (k_eqD (K := K) rfl hr.units) (k_fld (K := K) rfl (pv 0)) (k_fld (K := K) rfl (pv 1)) (nomark _)) (pe_one (pe_cmpR (k_eqD (K := K) rfl hr.units) (k_fld (K := K) rfl (pv 0)) (k_fld (K := K) rfl (pv 1)) (nomark _)))))))), ?_⟩
    refine ⟨.ref b, rfl, isi_own T ex' ⟨true, rfl, iteF ?_⟩⟩
    refine ⟨.ref a, rfl, a, _, _, _, _, rfl, ex, cls T, na_own_levels T, rfl, .ref b, rfl, b, _, _, _, _, rfl, ex', cls T, na_own_levels T, rfl, _, _, (LL.dp hA), (LL.dp hA'), shp_Lv m1, shp_Lv m3, _, rfl, ?_⟩
    rw [eqv_Lv]
    by_cases e1 : S.lv = S'.lv
    · rw [decide_eq_true e1]
      refine iteT ⟨.ref a, rfl, a, _, _, _, _, rfl, ex, cls T, na_own_lines T, rfl, .ref b, rfl, b, _, _, _, _, rfl, ex', cls T, na_own_lines T, rfl, _, _, (LT.dp hE), (LT.dp hE'), shp_Ln m2, shp_Ln m4, ?_⟩
      rw [eqv_Ln]
      have : decide (S = S') = decide (S.ln = S'.ln) := by
        obtain ⟨l1, l2⟩ := S
        obtain ⟨l3, l4⟩ := S'
        simp only at e1
        simp [e1]
      rw [this] at q
      exact q
    · rw [decide_eq_false e1]
      rw [decide_eq_false (fun e => e1 (congrArg Sh.lv e))] at q
      exact iteF q
end
end U

set_option linter.all false
set_option maxRecDepth 100000
set_option maxHeartbeats 2000000
/-! Comprehensions whose items lie apart from each other; the keys of a locked dict. -/
namespace UR
open PySem PySem.Spec PyProof.Rows L2
theorem wk_keys {d : Addr} {o : Obj} {kvs : List (Key × V)} {H1 : Hp} (h : H1 d = some (.frz o (.dK kvs))) : Wk (Itk d o kvs) H1 kvs fun kv x _ => x = kV kv.1 where
  stop := fun H s => ⟨s _ _ True.intro h, Nat.le_refl _⟩
  go := fun i b H s e => ⟨⟨s _ _ True.intro h, (List.getElem?_eq_some_iff.mp e).1⟩, fun x H' y => by
    obtain ⟨rfl, k, v, e2, rfl⟩ := y
    rw [e] at e2
    cases e2
    exact ⟨.refl _, rfl, fun D _ _ => rfl⟩⟩
  mono := fun _ _ _ _ _ h => h
section
variable {β : Type} {J : It} {H1 : Hp} {bs : List β} {Y : β → V → Hp → Prop} {g : TG} {tt : TT} {te : TE} {vs : List Nat} {σ : L2.St} {D : Addr} {Qd : Hp → Prop}
theorem paired_mem {α β : Type} {F : α → β → Prop} {b : β} : ∀ {l : List α} {m : List β}, Paired F l m → b ∈ m → ∃ a, F a b
  | _, _, .nil, h => nomatch h
  | _, _, .cons r t, h => by
    rcases List.mem_cons.mp h with rfl | h
    · exact ⟨_, r⟩
    · exact paired_mem t h
/-- [e for x in it]: every made one lies apart from the ones ahead -/
theorem lcG2 (wk : Wk J H1 bs Y) (hD : H1 D = none) (hn : bs.length < sizeLine) (R : β → V → Hp → Prop) (N : V → V → Prop) (mono : ∀ b y G G', Same G G' → R b y G → R b y G')
    (turn : ∀ b ∈ bs, ∀ x H (Nx : Hp → Prop), Same H1 (ers D H) → H1 D = none → (∃ acc, H D = some (.lst acc)) → Y b x H → Y b x (ers D H) →
      (∀ y H4, Same H H4 → R b y (ers D H4) → (∀ b' y', R b' y' (ers D H) → N y' y) → ∃ acc, H4 D = some (.lst acc) ∧ acc.length < sizeLine ∧ Nx (upd H4 D (.lst (acc ++ [y])))) →
      g x (wipe σ vs) H fun σ2 H2 => wipe σ2 vs = wipe σ vs ∧ tt σ2 H2 fun c H3 => if c = true then te σ2 H3 fun y H4 => ∃ acc, H4 D = some (.lst acc) ∧ acc.length < sizeLine ∧ Nx (upd H4 D (.lst (acc ++ [y]))) else Nx H3)
    (hd : ∀ H ys, Same H1 (ers D H) → H D = some (.lst ys) → Paired (fun b y => R b y (ers D H)) bs ys → ys.Pairwise N → Qd H) :
    ∃ W : Nat → Nat → Hp → Prop, (∃ m, W 0 m (upd H1 D (.lst []))) ∧ ∀ i m H, W i m H →
      (J.stop i H ∧ Qd H) ∨ (J.go i H ∧ ∃ Nx : Hp → Prop, (∀ H', Nx H' → ∃ m', m' < m ∧ W (i + 1) m' H') ∧ ∀ x H', J.yld i H x H' → g x (wipe σ vs) H' fun σ2 H2 => wipe σ2 vs = wipe σ vs ∧ tt σ2 H2 fun b H3 =>
        if b = true then te σ2 H3 fun y H4 => ∃ acc, H4 D = some (.lst acc) ∧ acc.length < sizeLine ∧ Nx (upd H4 D (.lst (acc ++ [y]))) else Nx H3) := by
  refine ⟨fun i m H => m = bs.length - i ∧ i ≤ bs.length ∧ Same H1 (ers D H) ∧ ∃ ys, H D = some (.lst ys) ∧ Paired (fun b y => R b y (ers D H)) (bs.take i) ys ∧ ys.Pairwise N,
    ⟨bs.length, by simp, Nat.zero_le _, by rw [ers_upd, ers_free hD]; exact .refl _, [], upd_same, .nil, .nil⟩, ?_⟩
  rintro i m H ⟨rfl, hi, s, ys, eD, p, pw⟩
  have s' : Same H1 H := s.trans (ers_same D H)
  by_cases hlt : i < bs.length
  · have e : bs[i]? = some bs[i] := List.getElem?_eq_getElem hlt
    obtain ⟨go, yl⟩ := wk.go i _ H s'.g e
    refine .inr ⟨go, fun H' => Same H1 (ers D H') ∧ ∃ ys, H' D = some (.lst ys) ∧ Paired (fun b y => R b y (ers D H')) (bs.take (i + 1)) ys ∧ ys.Pairwise N, fun H' h => ⟨bs.length - (i + 1), by omega, rfl, hlt, h⟩, fun x H' y => ?_⟩
    obtain ⟨sm, y1, y2⟩ := yl x H' y
    have eD' := sm _ _ eD
    have p' := L2.Paired.mapP p fun b y q => mono b y _ _ (sm.ers D) q
    refine turn _ (List.getElem_mem hlt) x H' (fun H' => Same H1 (ers D H') ∧ ∃ ys, H' D = some (.lst ys) ∧ Paired (fun b y => R b y (ers D H')) (bs.take (i + 1)) ys ∧ ys.Pairwise N) (s.trans (sm.ers D)) hD ⟨ys, eD'⟩ y1 (y2 D hD (by rw [eD]; simp)) (fun z H4 s4 r nn => ?_)
    have e4 := s4 _ _ eD'
    refine ⟨ys, e4, ?_, ?_, ys ++ [z], upd_same, ?_, ?_⟩
    · have := p.length
      rw [List.length_take] at this
      omega
    · rw [ers_upd]; exact s.trans ((sm.trans s4).ers D)
    · rw [ers_upd, List.take_add_one, e]
      exact (L2.Paired.mapP p fun b y q => mono b y _ _ ((sm.trans s4).ers D) q).snoc r
    · rw [List.pairwise_append]
      refine ⟨pw, by simp, fun a ha b hb => ?_⟩
      cases List.mem_singleton.mp hb
      obtain ⟨b', rb⟩ := paired_mem p' ha
      exact nn b' a rb
  · have : i = bs.length := by omega
    subst this
    rw [List.take_length] at p
    exact .inl ⟨wk.stop H s'.g, hd H ys s eD p pw⟩
end
end UR

set_option linter.all false
set_option maxRecDepth 100000
set_option maxHeartbeats 8000000
/-! Walks, seventh part: methods that make sheets. -/
namespace U
open PySem PySem.Spec PyProof.Rows L2 UR
/-- some of the lines -/
theorem ltp_filt {H H' : Hp} {E D : Addr} {qs : List (Addr × Str × Str)} {ys : List V} {keep : Addr × Str × Str → Bool} (h : LTp H E qs) (s : Same H H') (e : H' D = some (.lst ys)) (p : Paired (fun z y => y = V.ref z.1) (qs.filter keep) ys) : LTp H' D (qs.filter keep) :=
  ⟨by rw [e, paired_eq (f := fun z : Addr × Str × Str => V.ref z.1) p], fun z hz => (h.2 z (List.mem_filter.mp hz).1).s s⟩
theorem filt_map (f : Str × Str → Bool) (qs : List (Addr × Str × Str)) : (qs.filter fun z => f z.2).map (·.2) = (qs.map (·.2)).filter f := by
  rw [List.filter_map]
  rfl
/-- a new sheet -/
def Mk1 (K : PySem.W.Frag) (H : Hp) (Q : VK) (S : Sh) : Prop := ∀ H' x, Same H H' → H x = none → SheetAt K (dropL H H') x S → Q (.ref x) H'
theorem Mk1.s {K : PySem.W.Frag} {H H1 : Hp} {Q : VK} {S : Sh} (h : Mk1 K H Q S) (s : Same H H1) : ∀ x H', Same H1 H' → H1 x = none → SheetAt K (dropL H1 H') x S → Q (.ref x) H' :=
  fun x H' s2 n hS => h H' x (s.trans s2) (s.free n) (hS.s (dropL_mono s))
theorem str2 {l : Ln} (h : l.length ≤ 1000000) : l.length < sizeLine := sz64' h
section
variable {P : Program} {w : World} {K : PySem.W.Frag} {mg : Str → Option Value} {base : Heap} (T : TX K mg)
include T
def sp_S_levels (K : PySem.W.Frag) : Sp := fun vs H Q _ => ∃ (a : Addr) (S : Sh), vs = [.ref a] ∧ SheetAt K H a S ∧ S.lv.length ≤ 1000000 ∧
  ∀ H' p ps, Same H H' → H p = none → S.lv = ps.map (·.2) → LLp H' p ps → (∀ z ∈ ps, H z.1 = none ∧ z.1 ≠ p) → (ps.map (·.1)).Nodup → Q (.ref p) H'
theorem f_S_levels : Fn P w K mg base 1 (mA K "levels") (sp_S_levels K) [] := by
  obtain ⟨fd, F⟩ := dd_S_levels T
  have nd := sc_S_levels.nd
  refine fnD F (F.bindsN fun _ _ _ _ _ _ us hl => match us, hl with | [_], _ => rfl) sc_S_levels (fun vs H Q E h => ?_) (fun cdv A outer s H vs Q E hr h => ?_)
  · obtain ⟨a, S, rfl, _⟩ := h; rfl
  · obtain ⟨a, S, rfl, ⟨dx, A, B, D, E, F, G, kf, kg, ex, ⟨ps, e, eA, hps⟩, _⟩, hz, q⟩ := h
    refine ⟨_, PSs.nox ((pss_one (ps_ret (pe_lc (own := [("names", 1)]) (g := gName 1) (tt := tYes) rfl nd (k_ilist (K := K) rfl (k_fld (K := K) rfl (pv 0))) (blkOk_by (by rfl)) (fun _ _ _ _ _ => (pg_name (i := 1) nd rfl (by first | exact Or.inl rfl | exact Or.inr rfl))) (fun _ _ _ _ _ => pts_nil) (fun _ _ _ _ _ => (pe_callTy (k_list (K := K) rfl) rfl (b_list T) (by decide +kernel) (pa_cons (pv 1) pa_nil))))))), ?_⟩
    rw [e, List.length_map] at hz
    refine ⟨.ref a, rfl, a, _, _, _, _, rfl, ex, cls T, na_own_levels T, rfl, A, rfl, ⟨_, sqR eA⟩, fun L hL => ?_⟩
    refine lcG2 (wk_list (f := fun p : Addr × List Str => V.ref p.1) (sqR eA) (good_ref _ _)) hL (sz64' hz) (fun p y G => ∃ z, y = .ref z ∧ LS G z p.2 ∧ H z = none ∧ z ≠ L) (fun y' y => y' ≠ y)
      (fun p y G G' g ⟨z, e, l, n⟩ => ⟨z, e, l.s g, n⟩) (fun p hp v H' Nx sN _ ⟨acc, eacc⟩ e _ yes => ?_) (fun H' ys s1 eL pp pw => ?_)
    · subst e
      refine ⟨rfl, tyes (iteT ⟨.ref p.1, rfl, p.1, _, rfl, .inl ((hps p hp).s (sN.trans (ers_same _ _))).sq, fun z hz => ?_⟩)⟩
      have nL : z ≠ L := fun e => by rw [e, eacc] at hz; cases hz
      refine yes _ _ (same_new hz) ⟨z, rfl, (ers_ne nL).trans upd_same, (sN.trans (ers_same _ _)).free hz, nL⟩ fun b' y' ⟨z', e', l', _⟩ ee => ?_
      rw [e'] at ee
      have := V.ref.inj ee
      subst this
      rw [(ers_some l').2] at hz
      cases hz
    · have sH : Same H H' := s1.trans (ers_same _ _)
      have hex : ∃ rs : List (Addr × List Str), ps.map (·.2) = rs.map (·.2) ∧ ys = rs.map (fun p => V.ref p.1) ∧ ∀ p ∈ rs, LS (ers L H') p.1 p.2 ∧ H p.1 = none ∧ p.1 ≠ L := by
        clear hz eA hps eL pw e
        induction pp with
        | nil => exact ⟨[], rfl, rfl, fun _ h => nomatch h⟩
        | @cons b y bs ys r t ih =>
          obtain ⟨z, rfl, hz⟩ := r
          obtain ⟨rs, e1, rfl, h⟩ := ih
          refine ⟨(z, b.2) :: rs, by rw [List.map_cons, e1]; rfl, rfl, fun p m => ?_⟩
          rcases List.mem_cons.mp m with rfl | m
          · exact hz
          · exact h p m
      obtain ⟨rs, e1, rfl, h⟩ := hex
      refine q H' L rs sH hL (e.trans e1) ⟨eL, fun p m => (ers_same _ _) _ _ (h p m).1⟩ (fun z m => (h z m).2) ?_
      rw [List.pairwise_map] at pw
      exact List.pairwise_map.mpr (pw.imp fun n e => n (by rw [e]))
def sp_S_gap (K : PySem.W.Frag) : Sp := fun vs H Q _ => ∃ (a : Addr) (S : Sh) (n : Nat) (r : List Str), vs = [.ref a, .int n] ∧ SheetAt K H a S ∧ Valid S.lv S.ln ∧ S.lv[n]? = some r ∧ n + 1 < S.lv.length ∧ ∀ H' p, Same H H' → H p = none → LT H' p (S.ln.filter fun l => decide (l.1 ∈ r)) → Q (.ref p) H'
theorem f_S_gap : Fn P w K mg base 16 (mA K "gap") (sp_S_gap K) [] := by
  obtain ⟨fd, F⟩ := dd_S_gap T
  have nd := sc_S_gap.nd
  refine fnD F (F.bindsN fun _ _ _ _ _ _ us hl => match us, hl with | [_, _], _ => rfl) sc_S_gap (fun vs H Q E h => ?_) (fun cdv A outer s H vs Q E hr h => ?_)
  · obtain ⟨a, S, n, r, rfl, _⟩ := h; rfl
  · obtain ⟨a, S, n, r, rfl, hS, va, hn, hl, q⟩ := h
    have hu := hu_of hr
    have hz : S.lv.length ≤ 1000000 := Nat.le_trans va.tall (by decide)
    refine ⟨_, PSs.nox ((pss_cons (ps_if (PW.pt (pw_or (pt_not (pt_val (pe_f (f_has_level T) hr (by decide) rfl (g_has_level T) (kp_has_level T) (pa_cons (pv 0) (pa_cons (pv 1) pa_nil))))) (pw_or1 (pt_cmpR op_eq (pv 1) (pe_op op_sub (pe_callB (call_len_own (f_S_len T) (hr.mono (by decide)) (m_S_len T)) rfl (b_len T) PySem.boot_len (pa_cons (pv 0) pa_nil)) pe_int) (nomark _)))))
  (pss_one ps_never)
  pss_nil)
  (pss_one (ps_ret (pe_lc (own := [("line", 2)]) (g := gName 2) rfl nd (k_ilist (K := K) rfl (k_fld (K := K) rfl (pv 0))) (blkOk_by (by rfl)) (fun _ _ _ _ _ => (pg_name (i := 2) nd rfl (by first | exact Or.inl rfl | exact Or.inr rfl))) (fun _ _ _ _ _ => (pts_one (pt_cmpR op_eq (pe_dget hu (k_fld (K := K) rfl (pv 0)) (pe_ix (k_ixt (K := K) rfl) (pv 2) pe_int (fun _ _ => rfl)) (fun _ _ => rfl)) (pv 1) (nomark _)))) (fun _ _ _ _ _ => (pv 2))))))), ?_⟩
    refine ⟨.ref a, rfl, .int n, rfl, a, S, n, rfl, hS, by omega, hz, true, rfl, iteF ?_⟩
    refine ⟨.int n, rfl, .ref a, rfl, lenq hS hz ⟨_, _, rfl, rfl, rfl, false, blF (fun e => ?_), iteF ?_⟩⟩
    · have := V.int.inj e
      omega
    obtain ⟨dx, A, B, D, E, F, G, kf, kg, ex, _, _, eD, ⟨qs, e, eE, hqs⟩, _⟩ := hS
    refine ⟨.ref a, rfl, a, _, _, _, _, rfl, ex, cls T, na_own_lines T, rfl, E, rfl, ⟨_, sqR eE⟩, fun L hL => ?_⟩
    have hf := va.few
    rw [e, List.length_map] at hf
    refine lcG (wk_list (f := fun p : Addr × Str × Str => V.ref p.1) (sqR eE) (good_ref _ _)) hL (sz64' (by omega)) (fun z => decide (z.2.1 ∈ r)) (fun z y _ => y = .ref z.1) (fun _ _ _ _ _ h => h) (fun z hz v H' Nx sN _ _ e1 _ yes no => ?_) (fun H' ys s1 eL pp => ?_)
    · subst e1
      have s2 : Same H H' := sN.trans (ers_same _ _)
      have tz := (hqs z hz).s s2
      have mz : z.2 ∈ S.ln := by rw [e]; exact List.mem_map.mpr ⟨z, hz, rfl⟩
      obtain ⟨i, r1, r2, h1, h2, m1, m2⟩ := va.ok _ mz
      have dg := DGet.k (k := .inr z.2.1) (s2 _ _ eD)
      rw [num_at va.nd h1 m1] at dg
      refine ⟨rfl, .ref a, rfl, a, _, _, _, _, rfl, s2 _ _ ex, cls T, na_own_numbers T, rfl, .ref z.1, rfl, z.1, _, 0, .str z.2.1, rfl, rfl, tz.sq, rfl, D, _, rfl, dg, .int n, rfl, rfl, _, rfl, ?_⟩
      have hd : decide (V.int i = V.int n) = decide (z.2.1 ∈ r) := by
        by_cases hi : i = n
        · subst hi
          rw [h1] at hn
          cases hn
          rw [decide_eq_true rfl, decide_eq_true m1]
        · have hnr : z.2.1 ∉ r := fun m => by
            have a1 := num_at va.nd h1 m1
            rw [num_at va.nd hn m] at a1
            have := V.int.inj (Option.some.inj a1)
            omega
          rw [decide_eq_false hnr, decide_eq_false (fun e => hi (by have := V.int.inj e; omega))]
      rw [hd]
      by_cases m : z.2.1 ∈ r
      · rw [decide_eq_true m]
        exact iteT ⟨.ref z.1, rfl, yes _ _ (decide_eq_true m) (.refl _) rfl⟩
      · rw [decide_eq_false m]
        exact iteF (no _ (decide_eq_false m) (.refl _))
    · have s2 : Same H H' := s1.trans (ers_same _ _)
      have hl := ltp_filt ⟨eE, hqs⟩ s2 eL pp
      refine q H' L s2 hL ⟨_, ?_, hl⟩
      rw [e, filt_map (fun p => decide (p.1 ∈ r))]
def sp_S_sub (K : PySem.W.Frag) : Sp := fun vs H Q _ => ∃ (a t : Addr) (S : Sh) (p : Str × Str), vs = [.ref a, .ref t] ∧ SheetAt K H a S ∧ TP H t p ∧ NmLn S.ln ∧ p ∈ S.ln ∧ S.ln.length ≤ 1000000 ∧ Valid S.lv (S.ln.filter fun l => !decide (l = p)) ∧ Mk1 K H Q (mkSh S.lv (S.ln.filter fun l => !decide (l = p)))
theorem f_S_sub : Fn P w K mg base 21 (mA K "__sub__") (sp_S_sub K) [] := by
  obtain ⟨fd, F⟩ := dd_S_sub T
  have nd := sc_S_sub.nd
  refine fnD F (F.bindsN fun _ _ _ _ _ _ us hl => match us, hl with | [_, _], _ => rfl) sc_S_sub (fun vs H Q E h => ?_) (fun cdv A outer s H vs Q E hr h => ?_)
  · obtain ⟨a, t, S, p, rfl, _⟩ := h; rfl
  · obtain ⟨a, t, S, p, rfl, ⟨dx, A, B, D, E, F, G, kf, kg, ex, hA, _, _, hE, _⟩, ht, hm, hp, hz, va, q⟩ := h
    have hu := hu_of hr
    have hu65 := hu65_of hr
    refine ⟨_, PSs.nox ((pss_cons (ps_if (pt_cmpR (k_notinD (K := K) rfl hu65) (pv 1) (k_fld (K := K) rfl (pv 0)) (by with_unfolding_all rfl))
  (pss_one ps_never)
  pss_nil)
  (pss_one (ps_ret (pe_n (mk T) (f_S_init T) hr (by decide) rfl (g_Sheet T) (pa_cons (k_fld (K := K) rfl (pv 0)) (pa_cons (pe_lc (own := [("other", 2)]) (g := gName 2) rfl nd (k_ilist (K := K) rfl (k_fld (K := K) rfl (pv 0))) (blkOk_by (by rfl)) (fun _ _ _ _ _ => (pg_name (i := 2) nd rfl (by first | exact Or.inl rfl | exact Or.inr rfl))) (fun _ _ _ _ _ => (pts_one (pt_cmpR (k_neD (K := K) rfl hr.units) (pv 2) (pv 1) (nomark _)))) (fun _ _ _ _ _ => (pv 2))) pa_nil))))))), ?_⟩
    have np := hm p hp
    refine ⟨.ref t, rfl, .ref a, rfl, a, _, _, _, _, rfl, ex, cls T, na_own_lines T, rfl, encP p, _, TP.dp ht, LT.dp hE, shp_P np, shp_Ln hm, false, ?_, iteF ?_⟩
    · rw [any_P, decide_eq_true hp]
      rfl
    refine ⟨.ref a, rfl, a, _, _, _, _, rfl, ex, cls T, na_own_levels T, rfl, ?_⟩
    obtain ⟨qs, e, eE, hqs⟩ := hE
    refine ⟨.ref a, rfl, a, _, _, _, _, rfl, ex, cls T, na_own_lines T, rfl, E, rfl, ⟨_, sqR eE⟩, fun L hL => ?_⟩
    rw [e, List.length_map] at hz
    refine lcG (wk_list (f := fun p : Addr × Str × Str => V.ref p.1) (sqR eE) (good_ref _ _)) hL (sz64' hz) (fun z => !decide (z.2 = p)) (fun z y _ => y = .ref z.1) (fun _ _ _ _ _ h => h) (fun z hz v H' Nx sN _ _ e1 _ yes no => ?_) (fun H' ys s1 eL pp => ?_)
    · subst e1
      have s2 : Same H H' := sN.trans (ers_same _ _)
      have mz : z.2 ∈ S.ln := by rw [e]; exact List.mem_map.mpr ⟨z, hz, rfl⟩
      refine ⟨rfl, .ref z.1, rfl, .ref t, rfl, encP z.2, encP p, TP.dp ((hqs z hz).s s2), TP.dp (ht.s s2), shp_P (hm _ mz), shp_P np, _, rfl, ?_⟩
      rw [eqv_P]
      by_cases m : z.2 = p
      · rw [decide_eq_true m]
        exact iteF (no _ (by rw [decide_eq_true m]; rfl) (.refl _))
      · rw [decide_eq_false m]
        exact iteT ⟨.ref z.1, rfl, yes _ _ (by rw [decide_eq_false m]; rfl) (.refl _) rfl⟩
    · have s2 : Same H H' := s1.trans (ers_same _ _)
      have hl := ltp_filt ⟨eE, hqs⟩ s2 eL pp
      refine mkq (hA.s s2) (.inl ⟨_, ?_, hl⟩) va (q.s s2)
      rw [e, filt_map (fun l => !decide (l = p))]
def sp_S_add (K : PySem.W.Frag) : Sp := fun vs H Q _ => ∃ (a t : Addr) (S : Sh) (p : Str × Str), vs = [.ref a, .ref t] ∧ SheetAt K H a S ∧ TP H t p ∧ NmLn S.ln ∧ NmP p ∧ p ∉ S.ln ∧ Beside S.lv p ∧ Valid S.lv (S.ln ++ [p]) ∧ Mk1 K H Q (mkSh S.lv (S.ln ++ [p]))
theorem f_S_add : Fn P w K mg base 21 (mA K "__add__") (sp_S_add K) [] := by
  obtain ⟨fd, F⟩ := dd_S_add T
  have nd := sc_S_add.nd
  refine fnD F (F.bindsN fun _ _ _ _ _ _ us hl => match us, hl with | [_, _], _ => rfl) sc_S_add (fun vs H Q E h => ?_) (fun cdv A outer s H vs Q E hr h => ?_)
  · obtain ⟨a, t, S, p, rfl, _⟩ := h; rfl
  · obtain ⟨a, t, S, p, rfl, hS, ht, hm, np, hp, hb, va, q⟩ := h
    have hu65 := hu65_of hr
    refine ⟨_, PSs.nox ((pss_cons (ps_if (pt_not (pt_val (pe_m (f_S_can_be_line T) hr (by decide) (cls T) (m_S_can_be_line T) (pv 0) (pa_cons (pv 1) pa_nil))))
  (pss_one ps_never)
  pss_nil)
  (pss_one (ps_ret (pe_ifExp (pt_cmpR (k_inD (K := K) rfl hu65) (pv 1) (k_fld (K := K) rfl (pv 0)) (by with_unfolding_all rfl)) (pv 0) (pe_n (mk T) (f_S_init T) hr (by decide) rfl (g_Sheet T) (pa_cons (k_fld (K := K) rfl (pv 0)) (pa_cons (pe_op op_cat (k_fld (K := K) rfl (pv 0)) (pe_lst (pa_cons (pv 1) pa_nil))) pa_nil)))))))), ?_⟩
    have hS' := hS
    obtain ⟨dx, A, B, D, E, F, G, kf, kg, ex, hA, _, _, hE, _⟩ := hS'
    refine ⟨.ref a, rfl, a, dx, _, rfl, ex, rfl, .ref t, rfl, a, t, S, p, rfl, hS, ht, va.nd, hb, fun H1 s1 => ⟨true, rfl, iteF ?_⟩⟩
    have ex1 := s1 _ _ ex
    refine ⟨.ref t, rfl, .ref a, rfl, a, _, _, _, _, rfl, ex1, cls T, na_own_lines T, rfl, encP p, _, TP.dp (ht.s s1), LT.dp (hE.s s1), shp_P np, shp_Ln hm, false, ?_, iteF ?_⟩
    · rw [any_P, decide_eq_false hp]
    obtain ⟨qs, e, eE, hqs⟩ := hE
    have hf := va.few
    rw [List.length_append, e, List.length_map] at hf
    refine ⟨.ref a, rfl, a, _, _, _, _, rfl, ex1, cls T, na_own_levels T, rfl, .ref a, rfl, a, _, _, _, _, rfl, ex1, cls T, na_own_lines T, rfl, .ref t, rfl, by show 1 ≤ sizeLine; exact sz64 (by decide), fun L hL => ?_⟩
    have s2 := s1.trans (same_new hL (o := .lst [.ref t]))
    refine ⟨E, L, _, _, rfl, rfl, s2 _ _ eE, upd_same, by rw [List.length_map]; exact sz64 (by simp at hf ⊢; omega), fun M hM => ?_⟩
    have s3 := s2.trans (same_new hM (o := .lst (qs.map (fun p => V.ref p.1) ++ [.ref t])))
    refine mkq (hA.s s3) (.inl ⟨qs ++ [(t, p)], ?_, ?_, fun z hz => ?_⟩) va (q.s s3)
    · rw [e, List.map_append]
      rfl
    · rw [List.map_append]
      exact upd_same
    · rcases List.mem_append.mp hz with h | h
      · exact (hqs z h).s s3
      · cases List.mem_singleton.mp h
        exact ht.s s3
def sp_S_invert (K : PySem.W.Frag) : Sp := fun vs H Q _ => ∃ (a : Addr) (S : Sh), vs = [.ref a] ∧ SheetAt K H a S ∧ Valid S.lv.reverse (S.ln.map fun p => (p.2, p.1)) ∧ Mk1 K H Q (mkSh S.lv.reverse (S.ln.map fun p => (p.2, p.1)))
theorem f_S_invert : Fn P w K mg base 21 (mA K "__invert__") (sp_S_invert K) [] := by
  obtain ⟨fd, F⟩ := dd_S_invert T
  have nd := sc_S_invert.nd
  refine fnD F (F.bindsN fun _ _ _ _ _ _ us hl => match us, hl with | [_], _ => rfl) sc_S_invert (fun vs H Q E h => ?_) (fun cdv A outer s H vs Q E hr h => ?_)
  · obtain ⟨a, S, rfl, _⟩ := h; rfl
  · obtain ⟨a, S, rfl, ⟨dx, A, B, D, E, F, G, kf, kg, ex, ⟨ps, ep, eA, hps⟩, _, _, ⟨qs, e, eE, hqs⟩, _⟩, va, q⟩ := h
    refine ⟨_, PSs.nox ((pss_one (ps_ret (pe_n (mk T) (f_S_init T) hr (by decide) rfl (g_Sheet T) (pa_cons (k_rev (K := K) rfl (k_fld (K := K) rfl (pv 0))) (pa_cons (pe_lc (own := [("low", 1), ("high", 2)]) (tt := tYes) rfl nd (k_ilist (K := K) rfl (k_fld (K := K) rfl (pv 0))) (blkOk_by (by rfl)) (fun _ _ _ _ _ => (k_gtup (K := K) (n := 2) rfl rfl (pgs_cons (pg_name (i := 1) nd rfl (by first | exact Or.inl rfl | exact Or.inr rfl)) (pgs_cons (pg_name (i := 2) nd rfl (by first | exact Or.inl rfl | exact Or.inr rfl)) pgs_nil)))) (fun _ _ _ _ _ => pts_nil) (fun _ _ _ _ _ => (pe_tup (pa_cons (pv 2) (pa_cons (pv 1) pa_nil))))) pa_nil)))))), ?_⟩
    have hf := va.few
    rw [List.length_map, e, List.length_map] at hf
    refine ⟨.ref a, rfl, a, _, _, _, _, rfl, ex, cls T, na_own_levels T, rfl, A, _, rfl, sqR eA, fun R hR => ?_⟩
    have s1 := same_new hR (o := .lst (ps.map fun p => V.ref p.1).reverse)
    have eR : (upd H R (.lst (ps.map fun p => V.ref p.1).reverse)) R = some (.lst (ps.reverse.map fun p => V.ref p.1)) := by rw [upd_same, List.map_reverse]
    generalize upd H R (.lst (ps.map fun p => V.ref p.1).reverse) = H1 at s1 eR ⊢
    refine ⟨.ref a, rfl, a, _, _, _, _, rfl, s1 _ _ ex, cls T, na_own_lines T, rfl, E, rfl, ⟨_, sqR (s1 _ _ eE)⟩, fun L hL => ?_⟩
    refine lcG (wk_list (f := fun p : Addr × Str × Str => V.ref p.1) (sqR (s1 _ _ eE)) (good_ref _ _)) hL (sz64' (by omega)) (fun _ => true) (fun z y G => ∃ t, y = .ref t ∧ TP G t (z.2.2, z.2.1)) (fun z y G G' g ⟨t, e, h⟩ => ⟨t, e, h.s g⟩) (fun z hz v H' Nx sN _ ⟨acc, eacc⟩ e1 _ yes no => ?_) (fun H' ys s2 eL pp => ?_)
    · subst e1
      have s3 : Same H H' := s1.trans (sN.trans (ers_same _ _))
      refine ⟨z.1, _, rfl, ((hqs z hz).s s3).sq, rfl, _, _, rfl, _, _, rfl, rfl, rfl, tyes (iteT ⟨.str z.2.2, rfl, .str z.2.1, rfl, by show 2 ≤ sizeLine; decide, fun t ht => ?_⟩)⟩
      have nt : t ≠ L := fun e => by rw [e, eacc] at ht; cases ht
      exact yes _ _ rfl (same_new ht) ⟨t, rfl, (ers_ne nt).trans upd_same⟩
    · rw [filter_yes] at pp
      have s3 : Same H1 H' := s2.trans (ers_same _ _)
      refine mkq (LL.s ⟨ps.reverse, ?_, eR, fun p hp => (hps p (List.mem_reverse.mp hp)).s s1⟩ s3) (.inl ?_) va (q.s (s1.trans s3))
      · rw [ep, List.map_reverse]
      · have := (LT.made (gg := fun z : Addr × Str × Str => (z.2.2, z.2.1)) (L2.Paired.mapP pp fun z y ⟨t, e, h⟩ => ⟨t, e, h.s (ers_same _ _)⟩) eL)
        rw [e, List.map_map]
        exact this
def sp_S_with_level (K : PySem.W.Frag) : Sp := fun vs H Q _ => ∃ (a : Addr) (S : Sh), vs = [.ref a] ∧ SheetAt K H a S ∧ Valid (S.lv ++ [[]]) S.ln ∧ Mk1 K H Q (mkSh (S.lv ++ [[]]) S.ln)
theorem f_S_with_level : Fn P w K mg base 21 (mA K "with_level") (sp_S_with_level K) [] := by
  obtain ⟨fd, F⟩ := dd_S_with_level T
  have nd := sc_S_with_level.nd
  refine fnD F (F.bindsN fun _ _ _ _ _ _ us hl => match us, hl with | [_], _ => rfl) sc_S_with_level (fun vs H Q E h => ?_) (fun cdv A outer s H vs Q E hr h => ?_)
  · obtain ⟨a, S, rfl, _⟩ := h; rfl
  · obtain ⟨a, S, rfl, ⟨dx, A, B, D, E, F, G, kf, kg, ex, ⟨ps, ep, eA, hps⟩, _, _, hE, _⟩, va, q⟩ := h
    refine ⟨_, PSs.nox ((pss_one (ps_ret (pe_n (mk T) (f_S_init T) hr (by decide) rfl (g_Sheet T) (pa_cons (pe_op op_cat (k_fld (K := K) rfl (pv 0)) (pe_lst (pa_cons (pe_lst pa_nil) pa_nil))) (pa_cons (k_fld (K := K) rfl (pv 0)) pa_nil)))))), ?_⟩
    have hf := va.tall
    rw [List.length_append, ep, List.length_map] at hf
    refine ⟨.ref a, rfl, a, _, _, _, _, rfl, ex, cls T, na_own_levels T, rfl, Nat.zero_le _, fun L hL => ?_⟩
    have s1 := same_new hL (o := .lst [])
    refine ⟨by show 1 ≤ sizeLine; exact sz64 (by decide), fun M hM => ?_⟩
    have s2 := same_new hM (o := .lst [.ref L])
    refine ⟨A, M, _, _, rfl, rfl, s2 _ _ (s1 _ _ eA), upd_same, by rw [List.length_map]; exact sz64 (by simp at hf ⊢; omega), fun N hN => ?_⟩
    have s3 := same_new hN (o := .lst (ps.map (fun p => V.ref p.1) ++ [.ref L]))
    have s4 := (s1.trans s2).trans s3
    refine ⟨.ref a, rfl, a, _, _, _, _, rfl, s4 _ _ ex, cls T, na_own_lines T, rfl, ?_⟩
    refine mkq ⟨ps ++ [(L, [])], ?_, ?_, fun z hz => ?_⟩ (.inl (hE.s s4)) va (q.s s4)
    · rw [ep, List.map_append]
      rfl
    · rw [List.map_append]
      exact upd_same
    · rcases List.mem_append.mp hz with h | h
      · exact (hps z h).s s4
      · cases List.mem_singleton.mp h
        exact s3 _ _ (s2 _ _ upd_same)
end
end U

set_option linter.all false
set_option maxRecDepth 100000
set_option maxHeartbeats 2000000
/-! What hangs together. -/
namespace U
open PySem PySem.Spec PyProof.Rows L2 UR
inductive Conn (ln : Ln) : Str → Str → Prop where
  | refl (x : Str) : Conn ln x x
  | up {x a b : Str} (h : Conn ln x a) (m : (a, b) ∈ ln) : Conn ln x b
  | dn {x a b : Str} (h : Conn ln x b) (m : (a, b) ∈ ln) : Conn ln x a
theorem Conn.trans {ln : Ln} {x y z : Str} (h : Conn ln x y) (k : Conn ln y z) : Conn ln x z := by
  induction k with
  | refl => exact h
  | up _ m ih => exact .up ih m
  | dn _ m ih => exact .dn ih m
theorem Conn.symm {ln : Ln} {x y : Str} (h : Conn ln x y) : Conn ln y x := by
  induction h with
  | refl => exact .refl _
  | up _ m ih => exact (Conn.dn (.refl _) m).trans ih
  | dn _ m ih => exact (Conn.up (.refl _) m).trans ih
theorem Conn.mono {ln ln' : Ln} (s : ∀ p ∈ ln, p ∈ ln') {x y : Str} (h : Conn ln x y) : Conn ln' x y := by
  induction h with
  | refl => exact .refl _
  | up _ m ih => exact .up ih (s _ m)
  | dn _ m ih => exact .dn ih (s _ m)
theorem Conn.congr {ln ln' : Ln} (s : ∀ p, p ∈ ln ↔ p ∈ ln') {x y : Str} : Conn ln x y ↔ Conn ln' x y := ⟨Conn.mono fun p => (s p).mp, Conn.mono fun p => (s p).mpr⟩
theorem row_uniq {lv : Lv} (nd : lv.flatten.Nodup) {i j : Nat} {r r' : List Str} {x : Str} (h : lv[i]? = some r) (h' : lv[j]? = some r') (m : x ∈ r) (m' : x ∈ r') : i = j := by
  have a := num_at nd h m
  rw [num_at nd h' m'] at a
  have := V.int.inj (Option.some.inj a)
  omega
theorem row_uniq' {lv : Lv} (nd : lv.flatten.Nodup) {i j : Nat} {r r' : List Str} {x : Str} (h : lv[i]? = some r) (h' : lv[j]? = some r') (m : x ∈ r) (m' : x ∈ r') : r = r' := by
  have := row_uniq nd h h' m m'
  subst this
  rw [h] at h'
  exact Option.some.inj h'
theorem ln_nodes {lv : Lv} {ln : Ln} (v : Valid lv ln) {p : Str × Str} (m : p ∈ ln) : p.1 ∈ lv.flatten ∧ p.2 ∈ lv.flatten := by
  obtain ⟨i, r, r', h1, h2, m1, m2⟩ := v.ok p m
  exact ⟨List.mem_flatten.mpr ⟨r, List.mem_of_getElem? h1, m1⟩, List.mem_flatten.mpr ⟨r', List.mem_of_getElem? h2, m2⟩⟩
theorem conn_nodes {lv : Lv} {ln : Ln} (v : Valid lv ln) {x y : Str} (hx : x ∈ lv.flatten) (h : Conn ln x y) : y ∈ lv.flatten := by
  induction h with
  | refl => exact hx
  | up _ m _ => exact (ln_nodes v m).2
  | dn _ m _ => exact (ln_nodes v m).1
theorem mem_upL {ln : Ln} {x y : Str} : y ∈ upL ln x ↔ (x, y) ∈ ln := by
  unfold upL
  rw [List.mem_map]
  constructor
  · rintro ⟨⟨a, b⟩, h, rfl⟩
    obtain ⟨m, e⟩ := List.mem_filter.mp h
    have e' : a = x := of_decide_eq_true e
    rw [← e']
    exact m
  · intro h
    exact ⟨(x, y), List.mem_filter.mpr ⟨h, decide_eq_true rfl⟩, rfl⟩
theorem mem_dnL {ln : Ln} {x y : Str} : y ∈ dnL ln x ↔ (y, x) ∈ ln := by
  unfold dnL
  rw [List.mem_map]
  constructor
  · rintro ⟨⟨a, b⟩, h, rfl⟩
    obtain ⟨m, e⟩ := List.mem_filter.mp h
    have e' : b = x := of_decide_eq_true e
    rw [← e']
    exact m
  · intro h
    exact ⟨(y, x), List.mem_filter.mpr ⟨h, decide_eq_true rfl⟩, rfl⟩
theorem nodup_mapOn {α β : Type} {f : α → β} {l : List α} (nd : l.Nodup) (inj : ∀ a ∈ l, ∀ b ∈ l, f a = f b → a = b) : (l.map f).Nodup := by
  induction l with
  | nil => exact .nil
  | cons a l ih =>
    rw [List.nodup_cons] at nd
    rw [List.map_cons, List.nodup_cons]
    refine ⟨fun m => ?_, ih nd.2 fun x hx y hy => inj x (List.mem_cons_of_mem _ hx) y (List.mem_cons_of_mem _ hy)⟩
    obtain ⟨b, hb, e⟩ := List.mem_map.mp m
    exact nd.1 (inj a List.mem_cons_self b (List.mem_cons_of_mem _ hb) e.symm ▸ hb)
theorem upL_nodup {ln : Ln} (nd : ln.Nodup) (x : Str) : (upL ln x).Nodup := nodup_mapOn (nd.filter _) fun a ha b hb e => by
  have h1 : a.1 = x := of_decide_eq_true (List.mem_filter.mp ha).2
  have h2 : b.1 = x := of_decide_eq_true (List.mem_filter.mp hb).2
  exact Prod.ext (h1.trans h2.symm) e
theorem dnL_nodup {ln : Ln} (nd : ln.Nodup) (x : Str) : (dnL ln x).Nodup := nodup_mapOn (nd.filter _) fun a ha b hb e => by
  have h1 : a.2 = x := of_decide_eq_true (List.mem_filter.mp ha).2
  have h2 : b.2 = x := of_decide_eq_true (List.mem_filter.mp hb).2
  exact Prod.ext e (h1.trans h2.symm)
theorem near_nodup {lv : Lv} {ln : Ln} (v : Valid lv ln) (x : Str) : (upL ln x ++ dnL ln x).Nodup := by
  rw [List.nodup_append]
  refine ⟨upL_nodup v.lnd x, dnL_nodup v.lnd x, fun a ha b hb e => ?_⟩
  subst e
  obtain ⟨i, r, r', h1, h2, m1, m2⟩ := v.ok _ (mem_upL.mp ha)
  obtain ⟨j, s, s', g1, g2, n1, n2⟩ := v.ok _ (mem_dnL.mp hb)
  have e1 := row_uniq v.nd h1 g2 m1 n2
  have e2 := row_uniq v.nd h2 g1 m2 n1
  omega
theorem nodup_len {α : Type} [BEq α] [LawfulBEq α] : ∀ {l m : List α}, l.Nodup → (∀ x ∈ l, x ∈ m) → l.length ≤ m.length
  | [], m, _, _ => Nat.zero_le _
  | x :: l, m, nd, s => by
    rw [List.nodup_cons] at nd
    have hx := s x List.mem_cons_self
    have h := nodup_len (l := l) (m := m.erase x) nd.2 fun y hy => (List.mem_erase_of_ne (fun e => nd.1 (by rw [← e]; exact hy))).mpr (s y (List.mem_cons_of_mem _ hy))
    rw [List.length_erase_of_mem hx] at h
    have : 0 < m.length := List.length_pos_of_mem hx
    rw [List.length_cons]
    omega
theorem inV_str (x : Str) (l : List Str) : inV (.str x) (l.map V.str) = decide (x ∈ l) := by
  unfold inV
  induction l with
  | nil => simp
  | cons y l ih =>
    rw [List.map_cons, List.any_cons, ih]
    by_cases h : y = x
    · subst h
      simp [eqV]
    · have : eqV (.str y) (.str x) = false := by simp [eqV, h]
      rw [this]
      by_cases h2 : x ∈ l <;> simp [h2, Ne.symm h]
theorem flat_strs (l : List Str) : (l.map V.str).all flatV = true := by
  rw [List.all_eq_true]
  intro v h
  obtain ⟨x, _, rfl⟩ := List.mem_map.mp h
  rfl
/-- closed under neighbours: all that hangs there -/
theorem conn_closed {ln : Ln} {l : List Str} {x y : Str} (hx : x ∈ l) (c : ∀ z ∈ l, ∀ u ∈ upL ln z ++ dnL ln z, u ∈ l) (h : Conn ln x y) : y ∈ l := by
  induction h with
  | refl => exact hx
  | up _ m ih => exact c _ ih _ (List.mem_append_left _ (mem_upL.mpr m))
  | dn _ m ih => exact c _ ih _ (List.mem_append_right _ (mem_dnL.mpr m))
/-! ### the parts -/
open Classical in
/-- the nodes with no earlier one in their own part -/
noncomputable def roots (ln : Ln) : List Str → List Str → List Str
  | _, [] => []
  | seen, x :: r => if ∃ y ∈ seen, Conn ln y x then roots ln (seen ++ [x]) r else x :: roots ln (seen ++ [x]) r
open Classical in
/-- the part of x -/
noncomputable def restr (S : Sh) (x : Str) : Sh := ⟨S.lv.map fun r => r.filter fun y => decide (Conn S.ln x y), S.ln.filter fun p => decide (Conn S.ln x p.1)⟩
noncomputable def partsOf (S : Sh) : List Sh := (roots S.ln [] S.lv.flatten).map (restr S)
end U

set_option linter.all false
set_option maxRecDepth 100000
set_option maxHeartbeats 8000000
/-! Walks, eighth part: what hangs together; unions. -/
namespace U
open PySem PySem.Spec PyProof.Rows L2 UR
section
variable {P : Program} {w : World} {K : PySem.W.Frag} {mg : Str → Option Value} {base : Heap} (T : TX K mg)
include T
def sp_S_hanging (K : PySem.W.Frag) : Sp := fun vs H Q _ => ∃ (a : Addr) (S : Sh) (x : Str), vs = [.ref a, .str x] ∧ SheetAt K H a S ∧ Valid S.lv S.ln ∧ x ∈ S.lv.flatten ∧
  ∀ H' p l, Same H H' → H p = none → LS H' p l → l.Nodup → (∀ y, y ∈ l ↔ Conn S.ln x y) → Q (.ref p) H'
theorem f_S_hanging : Fn P w K mg base 6 (mA K "hanging") (sp_S_hanging K) [] := by
  obtain ⟨fd, F⟩ := dd_S_hanging T
  have nd := sc_S_hanging.nd
  refine fnD F (F.bindsN fun _ _ _ _ _ _ us hl => match us, hl with | [_, _], _ => rfl) sc_S_hanging (fun vs H Q E h => ?_) (fun cdv A outer s H vs Q E hr h => ?_)
  · obtain ⟨a, S, x, rfl, _⟩ := h; rfl
  · obtain ⟨a, S, x, rfl, ⟨dx, A, B, D, E, F, G, kf, kg, ex, _, _, _, _, eF, nF, eG, nG⟩, va, hx, q⟩ := h
    have hu := hu_of hr
    refine ⟨_, PSs.nox ((pss_cons (ps_asg (pe_tup (pa_cons (pe_lst (pa_cons (pv 1) pa_nil)) (pa_cons pe_int pa_nil))) (k_gtup (K := K) (n := 2) rfl rfl (pgs_cons (pg_name (i := 2) nd rfl (by first | exact Or.inl rfl | exact Or.inr rfl)) (pgs_cons (pg_name (i := 3) nd rfl (by first | exact Or.inl rfl | exact Or.inr rfl)) pgs_nil))))
  (pss_cons (ps_while PassesOwn.never (pt_cmpR op_lt (pv 3) (pe_callB (k_len (K := K) rfl) rfl (b_len T) PySem.boot_len (pa_cons (pv 2) pa_nil)) (nomark _))
  (pss_cons (ps_asg (pe_op op_cat (pe_dget hu (k_fld (K := K) rfl (pv 0)) (pe_ix (k_ixl (K := K) rfl) (pv 2) (pv 3) (fun _ _ => rfl)) (fun _ _ => rfl)) (pe_dget hu (k_fld (K := K) rfl (pv 0)) (pe_ix (k_ixl (K := K) rfl) (pv 2) (pv 3) (fun _ _ => rfl)) (fun _ _ => rfl))) (pg_name (i := 4) nd rfl (by first | exact Or.inl rfl | exact Or.inr rfl)))
  (pss_cons (ps_expr (k_bm (K := K) rfl PySem.F.plainAttrs_list PySem.F.slot_list_extend PySem.F.type_list_extend mt_extend (pv 2) (pa_cons (pe_lc (own := [("node", 5)]) (g := gName 5) rfl nd (k_ilist (K := K) rfl (pv 4)) (blkOk_by (by rfl)) (fun _ _ _ _ _ => (pg_name (i := 5) nd rfl (by first | exact Or.inl rfl | exact Or.inr rfl))) (fun _ _ _ _ _ => (pts_one (pt_cmpR (k_notin (K := K) rfl) (pv 5) (pv 2) (by with_unfolding_all rfl)))) (fun _ _ _ _ _ => (pv 5))) pa_nil)))
  (pss_one (ps_aug (i := 3) nd rfl (by first | exact Or.inl rfl | exact Or.inr rfl) pe_int ip_add)))))
  (pss_one (ps_ret (pv 2)))))), ?_⟩
    have nlen := va.flat
    -- found, at = ([first], 0)
    refine ⟨.str x, rfl, by show 1 ≤ sizeLine; exact sz64 (by decide), fun f hf => ⟨by show 2 ≤ sizeLine; exact sz64 (by decide), fun t ht => ?_⟩⟩
    have s1 := same_new hf (o := .lst [.str x])
    have s2 := same_new ht (o := .tup [.ref f, .int 0])
    have ef : (upd (upd H f (.lst [.str x])) t (.tup [.ref f, .int 0])) f = some (.lst [.str x]) := s2 _ _ upd_same
    have et : (upd (upd H f (.lst [.str x])) t (.tup [.ref f, .int 0])) t = some (.tup [.ref f, .int 0]) := upd_same
    have s12 := (s1.trans s2).ers0 hf
    generalize upd (upd H f (.lst [.str x])) t (.tup [.ref f, .int 0]) = H2 at ef et s12 ⊢
    refine ⟨t, _, rfl, .inl (.inl et), rfl, _, _, rfl, _, _, rfl, rfl, ?_⟩
    have sub : ∀ {l : List Str}, (∀ y ∈ l, Conn S.ln x y) → ∀ y ∈ l, y ∈ S.lv.flatten := fun h y hy => conn_nodes va hx (h y hy)
    refine ⟨fun m σ H' => ∃ (l : List Str) (n : Nat) (y4 y5 : Option V), σ = [some (.ref a), some (.str x), some (.ref f), some (.int n), y4, y5] ∧ Same H (ers f H') ∧ LS H' f l ∧ l.Nodup ∧ (∀ y ∈ l, Conn S.ln x y) ∧ x ∈ l ∧ n ≤ l.length ∧
        (∀ j y, j < n → l[j]? = some y → ∀ z ∈ upL S.ln y ++ dnL S.ln y, z ∈ l) ∧ m = S.lv.flatten.length - n,
      ⟨_, [x], 0, none, none, rfl, s12, ef, by simp, fun y hy => by rw [List.mem_singleton.mp hy]; exact .refl _, List.mem_singleton.mpr rfl, Nat.zero_le _, fun j y hj => absurd hj (Nat.not_lt_zero _), rfl⟩, ?_⟩
    rintro m σ H3 ⟨l, n, y4, y5, rfl, s3, ef3, ndl, con, hxl, hnl, clo, rfl⟩
    have s3' : Same H H3 := s3.trans (ers_same _ _)
    have llen : l.length ≤ S.lv.flatten.length := nodup_len ndl (sub con)
    refine ⟨.int n, rfl, .ref f, rfl, f, _, rfl, .inl ef3.sq, _, _, rfl, rfl, _, rfl, ?_⟩
    rw [List.length_map]
    by_cases hn : n < l.length
    · rw [decide_eq_true (by omega)]
      refine iteT ⟨fun σ' H' => ∃ (l' : List Str) (y4 y5 : Option V), σ' = [some (.ref a), some (.str x), some (.ref f), some (.int (n + 1 : Nat)), y4, y5] ∧ Same H (ers f H') ∧ LS H' f l' ∧ l'.Nodup ∧ (∀ y ∈ l', Conn S.ln x y) ∧ x ∈ l' ∧ n + 1 ≤ l'.length ∧
        (∀ j y, j < n + 1 → l'[j]? = some y → ∀ z ∈ upL S.ln y ++ dnL S.ln y, z ∈ l'), ?_, ?_⟩
      · rintro σ' H' ⟨l', y4, y5, rfl, h1, h2, h3, h4, h5, h6, h7⟩
        exact ⟨S.lv.flatten.length - (n + 1), by omega, l', n + 1, y4, y5, rfl, h1, h2, h3, h4, h5, h6, h7, rfl⟩
      · have en : l[n]? = some l[n] := List.getElem?_eq_getElem hn
        generalize hy : l[n] = y at en
        have my : y ∈ l := List.mem_of_getElem? en
        have yn := sub con y my
        obtain ⟨pu, hpu, lu⟩ := nF.get va.nd yn
        obtain ⟨pd, hpd, ld⟩ := nG.get va.nd yn
        have dgu := DGet.k (k := .inr y) (s3' _ _ eF)
        have dgd := DGet.k (k := .inr y) (s3' _ _ eG)
        rw [hpu] at dgu
        rw [hpd] at dgd
        have at3 : atI (l.map V.str) (n : Nat) = some (.str y) := atI_nat (by rw [List.getElem?_map, en]; rfl)
        refine ⟨.ref a, rfl, a, _, _, _, _, rfl, s3' _ _ ex, cls T, na_own_above T, rfl, .ref f, rfl, .int n, rfl, f, _, n, .str y, rfl, rfl, ef3.sq, at3, F, _, rfl, dgu, ?_⟩
        refine ⟨.ref a, rfl, a, _, _, _, _, rfl, s3' _ _ ex, cls T, na_own_below T, rfl, .ref f, rfl, .int n, rfl, f, _, n, .str y, rfl, rfl, ef3.sq, at3, G, _, rfl, dgd, ?_⟩
        have upz : (upL S.ln y).length + (dnL S.ln y).length ≤ 216 := by
          have := nodup_len (near_nodup va y) (m := S.lv.flatten) fun z hz => by
            rcases List.mem_append.mp hz with h | h
            · exact (ln_nodes va (mem_upL.mp h)).2
            · exact (ln_nodes va (mem_dnL.mp h)).1
          rw [List.length_append] at this
          omega
        refine ⟨pu, pd, _, _, rfl, rfl, lu.s s3', ld.s s3', sz64 (by rw [List.length_map, List.length_map]; omega), fun r hrr => ?_⟩
        have s4 := same_new hrr (o := .lst ((upL S.ln y).map V.str ++ (dnL S.ln y).map V.str))
        have er : LS (upd H3 r (.lst ((upL S.ln y).map V.str ++ (dnL S.ln y).map V.str))) r (upL S.ln y ++ dnL S.ln y) := by
          show upd _ _ _ _ = _
          rw [upd_same, List.map_append]
        have s4f : Same H (ers f (upd H3 r (.lst ((upL S.ln y).map V.str ++ (dnL S.ln y).map V.str)))) := s3.trans (s4.ers f)
        have ef4 := LS.s ef3 s4
        generalize upd H3 r (.lst ((upL S.ln y).map V.str ++ (dnL S.ln y).map V.str)) = H4 at s4 er s4f ef4 ⊢
        have nrf : r ≠ f := fun e => by rw [e] at hrr; rw [show H3 f = _ from ef3] at hrr; cases hrr
        -- found.extend([node for node in near if node not in found])
        refine ⟨.ref f, rfl, .inl ⟨rfl, _, ef4.sq⟩, .ref r, rfl, r, rfl, ⟨_, er.sq⟩, fun D2 hD2 => ?_⟩
        refine lcG (wk_list (f := V.str) er.sq (good_str _)) hD2 (sz64' (by rw [List.length_append]; omega)) (fun z => !decide (z ∈ l)) (fun z v _ => v = .str z) (fun _ _ _ _ _ h => h) (fun z hz v H' Nx sN _ _ e _ yes no => ?_) (fun H5 ys s5 e5 pp => ?_)
        · subst e
          have sN' : Same H4 H' := sN.trans (ers_same _ _)
          refine ⟨rfl, .str z, rfl, .ref f, rfl, f, _, rfl, .inl (ef4.s sN').sq, rfl, flat_strs l, _, rfl, ?_⟩
          rw [inV_str]
          by_cases mz : z ∈ l
          · rw [decide_eq_true mz]
            exact iteF (no _ (by rw [decide_eq_true mz]; rfl) (.refl _))
          · rw [decide_eq_false mz]
            exact iteT ⟨.str z, rfl, yes _ _ (by rw [decide_eq_false mz]; rfl) (.refl _) rfl⟩
        · have s5' : Same H4 H5 := s5.trans (ers_same _ _)
          have ey := paired_eq (f := V.str) pp
          have ef5 := ef4.s s5'
          generalize hnew : (upL S.ln y ++ dnL S.ln y).filter (fun z => !decide (z ∈ l)) = nw at ey
          have mnw : ∀ z, z ∈ nw ↔ z ∈ upL S.ln y ++ dnL S.ln y ∧ z ∉ l := fun z => by
            rw [← hnew, List.mem_filter]
            simp
          have ndn : (l ++ nw).Nodup := by
            rw [List.nodup_append]
            refine ⟨ndl, by rw [← hnew]; exact (near_nodup va y).filter _, fun u hu v hv e => ?_⟩
            subst e
            exact ((mnw u).mp hv).2 hu
          have con2 : ∀ z ∈ l ++ nw, Conn S.ln x z := fun z hz => by
            rcases List.mem_append.mp hz with h | h
            · exact con z h
            · rcases List.mem_append.mp ((mnw z).mp h).1 with h | h
              · exact .up (con y my) (mem_upL.mp h)
              · exact .dn (con y my) (mem_dnL.mp h)
          have l2 := nodup_len ndn (sub con2)
          rw [List.length_append] at l2
          refine ⟨f, D2, _, _, rfl, rfl, ef5, e5, sz64 (by rw [ey, List.length_map, List.length_map]; omega), ?_⟩
          refine ⟨.int n, rfl, n, 1, rfl, rfl, l ++ nw, _, _, by rfl, ?_, ?_, ndn, con2, List.mem_append_left _ hxl, by rw [List.length_append]; omega, fun j u hj eu z hz => ?_⟩
          · rw [ers_upd]
            exact s4f.trans (s5'.ers f)
          · show upd _ _ _ _ = _
            rw [upd_same, ey, List.map_append]
          · have hjl : j < l.length := by omega
            rw [List.getElem?_append_left hjl] at eu
            by_cases hjn : j < n
            · exact List.mem_append_left _ (clo j u hjn eu z hz)
            · have : j = n := by omega
              subst this
              rw [en] at eu
              cases eu
              by_cases mz : z ∈ l
              · exact List.mem_append_left _ mz
              · exact List.mem_append_right _ ((mnw z).mpr ⟨hz, mz⟩)
    · rw [decide_eq_false (by omega)]
      refine iteF ⟨.ref f, rfl, q H3 f l s3' hf ef3 ndl fun y => ⟨con y, conn_closed hxl fun z hz u hu => ?_⟩⟩
      obtain ⟨j, hj, ej⟩ := List.getElem_of_mem hz
      exact clo j z (by omega) (by rw [← ej]; exact List.getElem?_eq_getElem hj) u hu
end
end U

set_option linter.all false
set_option maxRecDepth 100000
set_option maxHeartbeats 8000000
/-! Walks, ninth part: unions, nodes more and less. -/
namespace U
open PySem PySem.Spec PyProof.Rows L2 UR
theorem same_unlock {H H' : Hp} {d D : Addr} {u : HO} {od : Obj} (hd : H d = some u) (s : Same (upd H d (.frz od u)) (ers D H')) : Same H (upd H' d u) := fun b o e => by
  by_cases h : b = d
  · subst h
    rw [hd] at e
    cases e
    exact upd_same
  · rw [upd_ne h]
    exact (ers_some (s b o (by rw [upd_ne h]; exact e))).2
theorem filter_no {β : Type} (l : List β) : l.filter (fun _ => false) = [] := by simp
theorem zw {α β γ : Type} {f : α → β → γ} : ∀ (l : List α) (m : List β), List.zipWith f l m = (l.zip m).map fun p => f p.1 p.2
  | [], _ => rfl
  | _ :: _, [] => rfl
  | a :: l, b :: m => by
    rw [List.zipWith_cons_cons, List.zip_cons_cons, List.map_cons, zw l m]
section
variable {P : Program} {w : World} {K : PySem.W.Frag} {mg : Str → Option Value} {base : Heap} (T : TX K mg)
include T
def sp_want_no_common (K : PySem.W.Frag) : Sp := fun vs H Q _ => ∃ (a b : Addr) (S S' : Sh), vs = [.ref a, .ref b] ∧ SheetAt K H a S ∧ SheetAt K H b S' ∧ S.lv.flatten.length ≤ 1000000 ∧ (∀ x ∈ S.lv.flatten, x ∉ S'.lv.flatten) ∧ (S.lv.flatten ≠ [] ∨ S'.lv.flatten ≠ []) ∧ ∀ H', Same H H' → Q .non H'
theorem f_want_no_common : Fn P w K mg base 1 (fA K "want_no_common") (sp_want_no_common K) [] := by
  obtain ⟨fd, F⟩ := dd_want_no_common T
  have nd := sc_want_no_common.nd
  refine fnD F (F.bindsN fun _ _ _ _ _ _ us hl => match us, hl with | [_, _], _ => rfl) sc_want_no_common (fun vs H Q E h => ?_) (fun cdv A outer s H vs Q E hr h => ?_)
  · obtain ⟨a, b, S, S', rfl, _⟩ := h; rfl
  · obtain ⟨a, b, S, S', rfl, ⟨dx, A, B, D, E, F, G, kf, kg, ex, _, _, eD, _⟩, ⟨dx', A', B', D', E', F', G', kf', kg', ex', _, _, eD', _⟩, hz, dis, ne, q⟩ := h
    have hu := hu_of hr
    refine ⟨_, PSs.nox ((pss_cons (ps_lock (ps_setLc (own := [("node", 3)]) (g := gName 3) (i := 2) rfl nd rfl rfl (sw_true rfl rfl rfl (by decide +kernel)) (pi_keys (k_fld (K := K) rfl (pv 0))) (blkOk_by (by rfl)) (fun _ _ _ _ _ => (pg_name (i := 3) nd rfl (by first | exact Or.inl rfl | exact Or.inr rfl))) (fun _ _ _ _ _ => (pts_one (pt_cmp (pc_din hu (pv 3) (k_fld (K := K) rfl (pv 1)))))) (fun _ _ _ _ _ => (pv 3))))
  (pss_one (ps_if (pt_cmpR (k_neD (K := K) rfl hr.units) (pv 2) (pe_lst pa_nil) (nomark _))
  (pss_one ps_never)
  pss_nil)))), ?_⟩
    have nD : D' ≠ D := fun e => by
      rw [e, eD] at eD'
      have h0 : numK S.lv = numK S'.lv := HO.dK.inj (Option.some.inj eD')
      have h1 := congrArg (fun k => k.map (·.1)) h0
      simp only [numK_keys] at h1
      have h2 : S.lv.flatten = S'.lv.flatten := by
        have : ∀ {l m : List Str}, l.map (Sum.inr : Str → Key) = m.map Sum.inr → l = m := by
          intro l
          induction l with
          | nil => intro m h; cases m with
            | nil => rfl
            | cons _ _ => cases h
          | cons x l ih => intro m h; cases m with
            | nil => cases h
            | cons y m =>
              rw [List.map_cons, List.map_cons] at h
              injection h with h1 h2
              rw [Sum.inr.inj h1, ih h2]
        exact this h1
      rcases ne with n | n
      · obtain ⟨x, l, e⟩ := List.exists_cons_of_ne_nil n
        exact dis x (by rw [e]; exact List.mem_cons_self) (by rw [← h2, e]; exact List.mem_cons_self)
      · obtain ⟨x, l, e⟩ := List.exists_cons_of_ne_nil n
        exact dis x (by rw [h2, e]; exact List.mem_cons_self) (by rw [e]; exact List.mem_cons_self)
    refine ⟨D, _, eD, True.intro, fun od => ?_⟩
    have nDa : a ≠ D := ne_of ex eD (fun z => nomatch z)
    have nDb : b ≠ D := ne_of ex' eD (fun z => nomatch z)
    have ex1 : (upd H D (.frz od (.dK (numK S.lv)))) a = _ := (upd_ne nDa).trans ex
    have ex1' : (upd H D (.frz od (.dK (numK S.lv)))) b = _ := (upd_ne nDb).trans ex'
    have eD1 : (upd H D (.frz od (.dK (numK S.lv)))) D = _ := upd_same
    have eD1' : (upd H D (.frz od (.dK (numK S.lv)))) D' = _ := (upd_ne nD).trans eD'
    refine ⟨.ref a, rfl, a, _, _, _, _, rfl, ex1, cls T, na_own_numbers T, rfl, D, od, rfl, .inl ⟨_, eD1, fun L hL => ?_⟩⟩
    refine lcG (wk_keys eD1) hL (sz64' ?_) (fun _ => false) (fun _ _ _ => True) (fun _ _ _ _ _ h => h) (fun kv hkv v H' Nx sN _ _ e _ yes no => ?_) (fun H' ys s1 eL pp => ?_)
    · have := congrArg List.length (numK_keys S.lv)
      rw [List.length_map, List.length_map] at this
      rw [this]
      exact hz
    · subst e
      have sN' := sN.trans (ers_same _ _)
      have mk : kv.1 ∈ S.lv.flatten.map Sum.inr := by rw [← numK_keys]; exact List.mem_map.mpr ⟨kv, hkv, rfl⟩
      obtain ⟨x, hx, ekx⟩ := List.mem_map.mp mk
      rw [← ekx]
      have dg := DGet.k (k := .inr x) (sN' _ _ eD1')
      rw [num_none (dis x hx)] at dg
      exact ⟨rfl, .str x, rfl, .ref b, rfl, b, _, _, _, _, rfl, sN' _ _ ex1', cls T, na_own_numbers T, rfl, D', none, rfl, dg, false, rfl, iteF (no _ rfl (.refl _))⟩
    · rw [filter_no] at pp
      cases pp
      have nLD : L ≠ D := fun e => by rw [e, eD1] at hL; cases hL
      refine ⟨(ers_some (s1 _ _ eD1)).2, ?_⟩
      have sF : Same H (upd H' D (.dK (numK S.lv))) := same_unlock eD s1
      have eL2 : (upd H' D (.dK (numK S.lv))) L = some (.lst []) := (upd_ne nLD).trans eL
      generalize upd H' D (.dK (numK S.lv)) = H2 at sF eL2 ⊢
      refine ⟨.ref L, rfl, Nat.zero_le _, fun M hM => ⟨.list [], .list [], .lst (sqR (same_new hM _ _ eL2)) .nil, .lst (sqR upd_same) .nil, by decide +kernel, by decide +kernel, false, rfl, iteF ?_⟩⟩
      exact q _ (sF.trans (same_new hM))
def sp_S_or (K : PySem.W.Frag) : Sp := fun vs H Q _ => ∃ (a b : Addr) (S S' : Sh), vs = [.ref a, .ref b] ∧ SheetAt K H a S ∧ SheetAt K H b S' ∧ S.lv.length = S'.lv.length ∧ (∀ x ∈ S.lv.flatten, x ∉ S'.lv.flatten) ∧ (S.lv.flatten ≠ [] ∨ S'.lv.flatten ≠ []) ∧ S.lv.flatten.length ≤ 1000000 ∧
  Valid (List.zipWith (· ++ ·) S.lv S'.lv) (S.ln ++ S'.ln) ∧ Mk1 K H Q (mkSh (List.zipWith (· ++ ·) S.lv S'.lv) (S.ln ++ S'.ln))
theorem f_S_or : Fn P w K mg base 21 (mA K "__or__") (sp_S_or K) [] := by
  obtain ⟨fd, F⟩ := dd_S_or T
  have nd := sc_S_or.nd
  refine fnD F (F.bindsN fun _ _ _ _ _ _ us hl => match us, hl with | [_, _], _ => rfl) sc_S_or (fun vs H Q E h => ?_) (fun cdv A outer s H vs Q E hr h => ?_)
  · obtain ⟨a, b, S, S', rfl, _⟩ := h; rfl
  · obtain ⟨a, b, S, S', rfl, hS, hS', le, dis, ne, hz, va, q⟩ := h
    refine ⟨_, PSs.nox ((pss_cons (ps_if (pt_not (pt_val (pe_callB (k_isi (K := K) rfl) rfl (b_isinstance T) (by decide +kernel) (pa_cons (pv 1) (pa_cons (pe_glob (v := .ref (C K)) rfl (g_Sheet T) rfl) pa_nil)))))
  (pss_one ps_never)
  pss_nil)
  (pss_cons (ps_if (pt_cmpR op_ne (pe_callB (call_len_own (f_S_len T) (hr.mono (by decide)) (m_S_len T)) rfl (b_len T) PySem.boot_len (pa_cons (pv 0) pa_nil)) (pe_callB (call_len_own (f_S_len T) (hr.mono (by decide)) (m_S_len T)) rfl (b_len T) PySem.boot_len (pa_cons (pv 1) pa_nil)) (nomark _))
  (pss_one ps_never)
  pss_nil)
  (pss_cons (ps_expr (pe_f (f_want_no_common T) hr (by decide) rfl (g_want_no_common T) (kp_want_no_common T) (pa_cons (pv 0) (pa_cons (pv 1) pa_nil))))
  (pss_cons (ps_setLc (own := [("near", 3), ("far", 4)]) (tt := tYes) (i := 2) rfl nd rfl rfl (sw_true rfl rfl rfl (by decide +kernel)) (k_izip (K := K) rfl rfl (b_zip T) (pa_cons (k_fld (K := K) rfl (pv 0)) (pa_cons (k_fld (K := K) rfl (pv 1)) pa_nil))) (blkOk_by (by rfl)) (fun _ _ _ _ _ => (k_gtup (K := K) (n := 2) rfl rfl (pgs_cons (pg_name (i := 3) nd rfl (by first | exact Or.inl rfl | exact Or.inr rfl)) (pgs_cons (pg_name (i := 4) nd rfl (by first | exact Or.inl rfl | exact Or.inr rfl)) pgs_nil)))) (fun _ _ _ _ _ => pts_nil) (fun _ _ _ _ _ => (pe_op op_cat (pv 3) (pv 4))))
  (pss_one (ps_ret (pe_n (mk T) (f_S_init T) hr (by decide) rfl (g_Sheet T) (pa_cons (pv 2) (pa_cons (pe_op op_cat (k_fld (K := K) rfl (pv 0)) (k_fld (K := K) rfl (pv 1))) pa_nil)))))))))), ?_⟩
    have hS0 := hS
    have hS0' := hS'
    obtain ⟨dx, A, B, D, E, F, G, kf, kg, ex, ⟨ps, ep, eA, hps⟩, _, _, ⟨qs, eq, eE, hqs⟩, _⟩ := hS
    obtain ⟨dx', A', B', D', E', F', G', kf', kg', ex', ⟨ps', ep', eA', hps'⟩, _, _, ⟨qs', eq', eE', hqs'⟩, _⟩ := hS'
    have tall := va.tall
    rw [List.length_zipWith] at tall
    have few := va.few
    rw [List.length_append] at few
    have lps : ps.length = S.lv.length := by rw [ep, List.length_map]
    have lps' : ps'.length = S'.lv.length := by rw [ep', List.length_map]
    refine ⟨.ref b, rfl, isi_own T ex' ⟨true, rfl, iteF ?_⟩⟩
    refine ⟨.ref a, rfl, lenq hS0 (by omega) ⟨.ref b, rfl, lenq hS0' (by omega) ⟨rfl, false, ?_, iteF ?_⟩⟩⟩
    · rw [le, decide_eq_true rfl]
      rfl
    refine ⟨.ref a, rfl, .ref b, rfl, a, b, S, S', rfl, hS0, hS0', hz, dis, ne, fun H1 s1 => ?_⟩
    refine ⟨.ref a, rfl, a, _, _, _, _, rfl, s1 _ _ ex, cls T, na_own_levels T, rfl, .ref b, rfl, b, _, _, _, _, rfl, s1 _ _ ex', cls T, na_own_levels T, rfl, A, A', _, _, rfl, sqR (s1 _ _ eA), sqR (s1 _ _ eA'), fun L hL => ?_⟩
    refine lcG (wk_zip (f := fun p : Addr × List Str => V.ref p.1) (f2 := fun p : Addr × List Str => V.ref p.1) (sqR (s1 _ _ eA)) (good_ref _ _) (sqR (s1 _ _ eA')) (good_ref _ _)) hL (sz64' (by rw [List.length_zip]; omega)) (fun _ => true) (fun z y G => ∃ t, y = .ref t ∧ LS G t (z.1.2 ++ z.2.2)) (fun z y G G' g ⟨t, e, h⟩ => ⟨t, e, h.s g⟩) (fun z hz v H' Nx sN _ ⟨acc, eacc⟩ ⟨t, e, et⟩ _ yes no => ?_) (fun H' ys s2 eL pp => ?_)
    · subst e
      have s3 : Same H H' := s1.trans (sN.trans (ers_same _ _))
      have hz1 := hps _ (List.of_mem_zip (a := z.1) (b := z.2) hz).1
      have hz2 := hps' _ (List.of_mem_zip (a := z.1) (b := z.2) hz).2
      have mrow : z.1.2 ++ z.2.2 ∈ List.zipWith (· ++ ·) S.lv S'.lv := by
        rw [ep, ep', List.zipWith_map]
        rw [zw]
        exact List.mem_map.mpr ⟨z, hz, rfl⟩
      have wd := va.wide _ mrow
      rw [List.length_append] at wd
      refine ⟨t, _, rfl, .inl (.inl et), rfl, _, _, rfl, _, _, rfl, rfl, rfl, tyes (iteT ?_)⟩
      refine ⟨.ref z.1.1, rfl, .ref z.2.1, rfl, z.1.1, z.2.1, _, _, rfl, rfl, hz1.s s3, hz2.s s3, sz64 (by rw [List.length_map, List.length_map]; omega), fun t ht => ?_⟩
      have nt : t ≠ L := fun e => by rw [e, eacc] at ht; cases ht
      exact yes _ _ rfl (same_new ht) ⟨t, rfl, (ers_ne nt).trans (by rw [upd_same, List.map_append])⟩
    · rw [filter_yes] at pp
      have s3 : Same H H' := s1.trans (s2.trans (ers_same _ _))
      have hLL := (LL.made (gg := fun z : (Addr × List Str) × (Addr × List Str) => z.1.2 ++ z.2.2) (L2.Paired.mapP pp fun z y ⟨t, e, h⟩ => ⟨t, e, h.s (ers_same _ _)⟩) eL)
      refine ⟨.ref L, rfl, .ref a, rfl, a, _, _, _, _, rfl, s3 _ _ ex, cls T, na_own_lines T, rfl, .ref b, rfl, b, _, _, _, _, rfl, s3 _ _ ex', cls T, na_own_lines T, rfl, E, E', _, _, rfl, rfl, s3 _ _ eE, s3 _ _ eE', sz64 (by rw [List.length_map, List.length_map]; rw [eq, List.length_map, eq', List.length_map] at few; omega), fun M hM => ?_⟩
      have s4 := same_new hM (o := .lst (qs.map (fun p => V.ref p.1) ++ qs'.map fun p => V.ref p.1))
      refine mkq (rows := List.zipWith (· ++ ·) S.lv S'.lv) ?_ (.inl ⟨qs ++ qs', ?_, ?_, fun z hz => ?_⟩) va (q.s (s3.trans s4))
      · have : List.zipWith (· ++ ·) S.lv S'.lv = (ps.zip ps').map fun z : (Addr × List Str) × (Addr × List Str) => z.1.2 ++ z.2.2 := by
          rw [ep, ep', List.zipWith_map, zw]
        rw [this]
        exact hLL.s s4
      · rw [eq, eq', List.map_append]
      · rw [List.map_append]
        exact upd_same
      · rcases List.mem_append.mp hz with h | h
        · exact (hqs z h).s (s3.trans s4)
        · exact (hqs' z h).s (s3.trans s4)
def sp_S_rshift (K : PySem.W.Frag) : Sp := fun vs H Q _ => ∃ (a b : Addr) (S S' : Sh), vs = [.ref a, .ref b] ∧ SheetAt K H a S ∧ SheetAt K H b S' ∧ (∀ x ∈ S.lv.flatten, x ∉ S'.lv.flatten) ∧ (S.lv.flatten ≠ [] ∨ S'.lv.flatten ≠ []) ∧ S.lv.flatten.length ≤ 1000000 ∧
  Valid (S.lv ++ S'.lv) (S.ln ++ S'.ln) ∧ Mk1 K H Q (mkSh (S.lv ++ S'.lv) (S.ln ++ S'.ln))
theorem f_S_rshift : Fn P w K mg base 21 (mA K "__rshift__") (sp_S_rshift K) [] := by
  obtain ⟨fd, F⟩ := dd_S_rshift T
  have nd := sc_S_rshift.nd
  refine fnD F (F.bindsN fun _ _ _ _ _ _ us hl => match us, hl with | [_, _], _ => rfl) sc_S_rshift (fun vs H Q E h => ?_) (fun cdv A outer s H vs Q E hr h => ?_)
  · obtain ⟨a, b, S, S', rfl, _⟩ := h; rfl
  · obtain ⟨a, b, S, S', rfl, hS, hS', dis, ne, hz, va, q⟩ := h
    refine ⟨_, PSs.nox ((pss_cons (ps_if (pt_not (pt_val (pe_callB (k_isi (K := K) rfl) rfl (b_isinstance T) (by decide +kernel) (pa_cons (pv 1) (pa_cons (pe_glob (v := .ref (C K)) rfl (g_Sheet T) rfl) pa_nil)))))
  (pss_one ps_never)
  pss_nil)
  (pss_cons (ps_expr (pe_f (f_want_no_common T) hr (by decide) rfl (g_want_no_common T) (kp_want_no_common T) (pa_cons (pv 0) (pa_cons (pv 1) pa_nil))))
  (pss_one (ps_ret (pe_n (mk T) (f_S_init T) hr (by decide) rfl (g_Sheet T) (pa_cons (pe_op op_cat (k_fld (K := K) rfl (pv 0)) (k_fld (K := K) rfl (pv 1))) (pa_cons (pe_op op_cat (k_fld (K := K) rfl (pv 0)) (k_fld (K := K) rfl (pv 1))) pa_nil)))))))), ?_⟩
    have hS0 := hS
    have hS0' := hS'
    obtain ⟨dx, A, B, D, E, F, G, kf, kg, ex, ⟨ps, ep, eA, hps⟩, _, _, ⟨qs, eq, eE, hqs⟩, _⟩ := hS
    obtain ⟨dx', A', B', D', E', F', G', kf', kg', ex', ⟨ps', ep', eA', hps'⟩, _, _, ⟨qs', eq', eE', hqs'⟩, _⟩ := hS'
    have tall := va.tall
    rw [List.length_append, ep, ep', List.length_map, List.length_map] at tall
    have few := va.few
    rw [List.length_append, eq, eq', List.length_map, List.length_map] at few
    refine ⟨.ref b, rfl, isi_own T ex' ⟨true, rfl, iteF ?_⟩⟩
    refine ⟨.ref a, rfl, .ref b, rfl, a, b, S, S', rfl, hS0, hS0', hz, dis, ne, fun H1 s1 => ?_⟩
    refine ⟨.ref a, rfl, a, _, _, _, _, rfl, s1 _ _ ex, cls T, na_own_levels T, rfl, .ref b, rfl, b, _, _, _, _, rfl, s1 _ _ ex', cls T, na_own_levels T, rfl, A, A', _, _, rfl, rfl, s1 _ _ eA, s1 _ _ eA', sz64 (by rw [List.length_map, List.length_map]; omega), fun L hL => ?_⟩
    have s2 := s1.trans (same_new hL (o := .lst (ps.map (fun p => V.ref p.1) ++ ps'.map fun p => V.ref p.1)))
    have eL : (upd H1 L (.lst (ps.map (fun p => V.ref p.1) ++ ps'.map fun p => V.ref p.1))) L = some (.lst ((ps ++ ps').map fun p => V.ref p.1)) := by rw [upd_same, List.map_append]
    generalize upd H1 L (.lst (ps.map (fun p => V.ref p.1) ++ ps'.map fun p => V.ref p.1)) = H2 at s2 eL ⊢
    refine ⟨.ref a, rfl, a, _, _, _, _, rfl, s2 _ _ ex, cls T, na_own_lines T, rfl, .ref b, rfl, b, _, _, _, _, rfl, s2 _ _ ex', cls T, na_own_lines T, rfl, E, E', _, _, rfl, rfl, s2 _ _ eE, s2 _ _ eE', sz64 (by rw [List.length_map, List.length_map]; omega), fun M hM => ?_⟩
    have s3 := same_new hM (o := .lst (qs.map (fun p => V.ref p.1) ++ qs'.map fun p => V.ref p.1))
    refine mkq ⟨ps ++ ps', ?_, s3 _ _ eL, fun z hz => ?_⟩ (.inl ⟨qs ++ qs', ?_, ?_, fun z hz => ?_⟩) va (q.s (s2.trans s3))
    · rw [ep, ep', List.map_append]
    · rcases List.mem_append.mp hz with h | h
      · exact (hps z h).s (s2.trans s3)
      · exact (hps' z h).s (s2.trans s3)
    · rw [eq, eq', List.map_append]
    · rw [List.map_append]
      exact upd_same
    · rcases List.mem_append.mp hz with h | h
      · exact (hqs z h).s (s2.trans s3)
      · exact (hqs' z h).s (s2.trans s3)
end
end U

set_option linter.all false
set_option maxRecDepth 100000
set_option maxHeartbeats 8000000
/-! Walks, tenth part: nodes more and less, lines more, pairs, repr. -/
namespace U
open PySem PySem.Spec PyProof.Rows L2 UR
section
variable {P : Program} {w : World} {K : PySem.W.Frag} {mg : Str → Option Value} {base : Heap} (T : TX K mg)
include T
def sp_S_with_node (K : PySem.W.Frag) : Sp := fun vs H Q _ => ∃ (a : Addr) (S : Sh) (x : Str) (r0 : List Str) (rest : Lv), vs = [.ref a, .int 0, .str x] ∧ SheetAt K H a S ∧ S.lv = r0 :: rest ∧ S.lv.length ≤ 1000000 ∧ nameOk x = true ∧ x ∉ S.lv.flatten ∧
  Valid ((r0 ++ [x]) :: rest) S.ln ∧ Mk1 K H Q (mkSh ((r0 ++ [x]) :: rest) S.ln)
theorem f_S_with_node : Fn P w K mg base 21 (mA K "with_node") (sp_S_with_node K) [] := by
  obtain ⟨fd, F⟩ := dd_S_with_node T
  have nd := sc_S_with_node.nd
  refine fnD F (F.bindsN fun _ _ _ _ _ _ us hl => match us, hl with | [_, _, _], _ => rfl) sc_S_with_node (fun vs H Q E h => ?_) (fun cdv A outer s H vs Q E hr h => ?_)
  · obtain ⟨a, S, x, r0, rest, rfl, _⟩ := h; rfl
  · obtain ⟨a, S, x, r0, rest, rfl, hS, elv, hz, ok, nx, va, q⟩ := h
    have hu := hu_of hr
    refine ⟨_, PSs.nox ((pss_cons (ps_expr (pe_f (f_want_level T) hr (by decide) rfl (g_want_level T) (kp_want_level T) (pa_cons (pv 0) (pa_cons (pv 1) pa_nil))))
  (pss_cons (ps_if (pt_not (pt_val (pe_f (f_is_name T) hr (by decide) rfl (g_is_name T) (kp_is_name T) (pa_cons (pv 2) pa_nil))))
  (pss_one ps_never)
  pss_nil)
  (pss_cons (ps_if (pt_cmp (pc_din hu (pv 2) (k_fld (K := K) rfl (pv 0))))
  (pss_one ps_never)
  pss_nil)
  (pss_cons (ps_asg (pe_m0 (f_S_levels T) hr (by decide) (cls T) (m_S_levels T) (pv 0)) (pg_name (i := 3) nd rfl (by first | exact Or.inl rfl | exact Or.inr rfl)))
  (pss_cons (ps_expr (k_bm (K := K) rfl PySem.F.plainAttrs_list PySem.F.slot_list_append PySem.F.type_list_append mt_append (pe_ix (k_ixl (K := K) rfl) (pv 3) (pv 1) (fun _ _ => rfl)) (pa_cons (pv 2) pa_nil)))
  (pss_one (ps_ret (pe_n (mk T) (f_S_init T) hr (by decide) rfl (g_Sheet T) (pa_cons (pv 3) (pa_cons (k_fld (K := K) rfl (pv 0)) pa_nil))))))))))), ?_⟩
    refine ⟨.ref a, rfl, .int 0, rfl, a, S, 0, rfl, hS, by rw [elv, List.length_cons]; omega, hz, ?_⟩
    refine ⟨.str x, rfl, x, rfl, ok, fun H1 s1 => ⟨true, rfl, iteF ?_⟩⟩
    have hS1 := hS.s s1
    have hS1' := hS1
    obtain ⟨dx, A, B, D, E, F, G, kf, kg, ex, _, _, eD, hE, _⟩ := hS1'
    have dg := DGet.k (k := .inr x) eD
    rw [num_none nx] at dg
    refine ⟨.str x, rfl, .ref a, rfl, a, _, _, _, _, rfl, ex, cls T, na_own_numbers T, rfl, D, none, rfl, dg, false, rfl, iteF ?_⟩
    refine ⟨.ref a, rfl, a, dx, _, rfl, ex, rfl, a, S, rfl, hS1, hz, fun H2 p ps s2 np eps hL fr nd' => ?_⟩
    rw [elv] at eps
    cases ps with
    | nil => cases eps
    | cons z ps =>
      rw [List.map_cons] at eps
      obtain ⟨e1, e2⟩ := List.cons.inj eps
      have hz0 : LS H2 z.1 r0 := by rw [e1]; exact hL.2 z List.mem_cons_self
      have wd := va.wide _ List.mem_cons_self
      rw [List.length_append] at wd
      refine ⟨.ref p, rfl, .int 0, rfl, p, _, 0, .ref z.1, rfl, rfl, sqR hL.1, atI_nat (j := 0) rfl, .inl ⟨rfl, _, hz0.sq⟩, .str x, rfl, z.1, _, _, rfl, rfl, hz0, sz64' (by rw [List.length_map]; omega), ?_⟩
      have s3 : Same H1 (upd H2 z.1 (.lst (r0.map V.str ++ [.str x]))) := same_put (s2.ers0 (fr z List.mem_cons_self).1)
      have hp3 : (upd H2 z.1 (.lst (r0.map V.str ++ [.str x]))) p = _ := (upd_ne (fr z List.mem_cons_self).2.symm).trans hL.1
      have hz3 : (upd H2 z.1 (.lst (r0.map V.str ++ [.str x]))) z.1 = _ := upd_same
      have ho3 : ∀ y ∈ ps, LS (upd H2 z.1 (.lst (r0.map V.str ++ [.str x]))) y.1 y.2 := fun y hy => by
        rw [List.map_cons, List.nodup_cons] at nd'
        exact (upd_ne (fun e => nd'.1 (List.mem_map.mpr ⟨y, hy, e⟩))).trans (hL.2 y (List.mem_cons_of_mem _ hy))
      generalize upd H2 z.1 (.lst (r0.map V.str ++ [.str x])) = H3 at s3 hp3 hz3 ho3 ⊢
      refine ⟨.ref p, rfl, .ref a, rfl, a, _, _, _, _, rfl, s3 _ _ ex, cls T, na_own_lines T, rfl, ?_⟩
      refine mkq ⟨(z.1, r0 ++ [x]) :: ps, ?_, hp3, fun y hy => ?_⟩ (.inl (hE.s s3)) va (q.s (s1.trans s3))
      · rw [List.map_cons, e2]
      · rcases List.mem_cons.mp hy with rfl | h
        · show H3 z.1 = _
          rw [hz3, List.map_append]
          rfl
        · exact ho3 y h
def sp_S_without_node (K : PySem.W.Frag) : Sp := fun vs H Q _ => ∃ (a : Addr) (S : Sh) (x : Str), vs = [.ref a, .str x] ∧ SheetAt K H a S ∧ Valid S.lv S.ln ∧ x ∈ S.lv.flatten ∧
  Valid (S.lv.map fun r => r.filter fun y => !decide (y = x)) (S.ln.filter fun p => !decide (x ∈ [p.1, p.2])) ∧ Mk1 K H Q (mkSh (S.lv.map fun r => r.filter fun y => !decide (y = x)) (S.ln.filter fun p => !decide (x ∈ [p.1, p.2])))
theorem f_S_without_node : Fn P w K mg base 21 (mA K "without_node") (sp_S_without_node K) [] := by
  obtain ⟨fd, F⟩ := dd_S_without_node T
  have nd := sc_S_without_node.nd
  refine fnD F (F.bindsN fun _ _ _ _ _ _ us hl => match us, hl with | [_, _], _ => rfl) sc_S_without_node (fun vs H Q E h => ?_) (fun cdv A outer s H vs Q E hr h => ?_)
  · obtain ⟨a, S, x, rfl, _⟩ := h; rfl
  · obtain ⟨a, S, x, rfl, hS, va0, hx, va, q⟩ := h
    refine ⟨_, PSs.nox ((pss_cons (ps_expr (pe_f (f_want_node T) hr (by decide) rfl (g_want_node T) (kp_want_node T) (pa_cons (pv 0) (pa_cons (pv 1) pa_nil))))
  (pss_cons (ps_setLc (own := [("names", 4)]) (g := gName 4) (tt := tYes) (i := 2) rfl nd rfl rfl (sw_true rfl rfl rfl (by decide +kernel)) (k_ilist (K := K) rfl (k_fld (K := K) rfl (pv 0))) (blkOk_by (by rfl)) (fun _ _ _ _ _ => (pg_name (i := 4) nd rfl (by first | exact Or.inl rfl | exact Or.inr rfl))) (fun _ _ _ _ _ => pts_nil) (fun _ _ _ _ _ => (pe_lc (own := [("other", 3)]) (g := gName 3) rfl nd (k_ilist (K := K) rfl (pv 4)) (blkOk_by (by rfl)) (fun _ _ _ _ _ => (pg_name (i := 3) nd rfl (by first | exact Or.inl rfl | exact Or.inr rfl))) (fun _ _ _ _ _ => (pts_one (pt_cmpR op_ne (pv 3) (pv 1) (nomark _)))) (fun _ _ _ _ _ => (pv 3)))))
  (pss_one (ps_ret (pe_n (mk T) (f_S_init T) hr (by decide) rfl (g_Sheet T) (pa_cons (pv 2) (pa_cons (pe_lc (own := [("line", 5)]) (g := gName 5) rfl nd (k_ilist (K := K) rfl (k_fld (K := K) rfl (pv 0))) (blkOk_by (by rfl)) (fun _ _ _ _ _ => (pg_name (i := 5) nd rfl (by first | exact Or.inl rfl | exact Or.inr rfl))) (fun _ _ _ _ _ => (pts_one (pt_cmpR (k_notin (K := K) rfl) (pv 1) (pv 5) (by with_unfolding_all rfl)))) (fun _ _ _ _ _ => (pv 5))) pa_nil)))))))), ?_⟩
    refine ⟨.ref a, rfl, .str x, rfl, a, S, x, rfl, hS, va0.nd, hx, ?_⟩
    obtain ⟨dx, A, B, D, E, F, G, kf, kg, ex, ⟨ps, ep, eA, hps⟩, _, _, ⟨qs, eq, eE, hqs⟩, _⟩ := hS
    have tall := va0.tall
    rw [ep, List.length_map] at tall
    have few := va0.few
    rw [eq, List.length_map] at few
    refine ⟨.ref a, rfl, a, _, _, _, _, rfl, ex, cls T, na_own_levels T, rfl, A, rfl, ⟨_, sqR eA⟩, fun L hL => ?_⟩
    refine lcG (wk_list (f := fun p : Addr × List Str => V.ref p.1) (sqR eA) (good_ref _ _)) hL (sz64' (by omega)) (fun _ => true) (fun z y G => ∃ t, y = .ref t ∧ LS G t (z.2.filter fun y => !decide (y = x))) (fun z y G G' g ⟨t, e, h⟩ => ⟨t, e, h.s g⟩) (fun z hz v H' Nx sN _ ⟨acc, eacc⟩ e _ yes no => ?_) (fun H' ys s2 eL pp => ?_)
    · subst e
      have s3 : Same H H' := sN.trans (ers_same _ _)
      have hz1 := (hps _ hz).s s3
      have wd := va0.wide z.2 (by rw [ep]; exact List.mem_map.mpr ⟨z, hz, rfl⟩)
      refine ⟨rfl, tyes (iteT ⟨.ref z.1, rfl, z.1, rfl, ⟨_, hz1.sq⟩, fun M hM => ?_⟩)⟩
      refine lcG (wk_list (f := V.str) hz1.sq (good_str _)) hM (sz64' (by omega)) (fun y => !decide (y = x)) (fun z v _ => v = .str z) (fun _ _ _ _ _ h => h) (fun y hy v H2 Nx2 sN2 _ _ e _ yes2 no2 => ?_) (fun H2 ys2 s4 e4 p4 => ?_)
      · subst e
        refine ⟨rfl, .str y, rfl, .str x, rfl, rfl, _, rfl, ?_⟩
        have hd : (!decide (V.str y = V.str x)) = !decide (y = x) := by simp
        rw [hd]
        by_cases m : y = x
        · rw [decide_eq_true m]
          exact iteF (no2 _ (by rw [decide_eq_true m]; rfl) (.refl _))
        · rw [decide_eq_false m]
          exact iteT ⟨.str y, rfl, yes2 _ _ (by rw [decide_eq_false m]; rfl) (.refl _) rfl⟩
      · have nM : M ≠ L := fun e => by rw [e, eacc] at hM; cases hM
        exact yes _ _ rfl (s4.trans (ers_same _ _)) ⟨M, rfl, (ers_ne nM).trans (by rw [e4, paired_eq (f := V.str) p4])⟩
    · rw [filter_yes] at pp
      have s3 : Same H H' := s2.trans (ers_same _ _)
      have hLL := (LL.made (gg := fun z : Addr × List Str => z.2.filter fun y => !decide (y = x)) (L2.Paired.mapP pp fun z y ⟨t, e, h⟩ => ⟨t, e, h.s (ers_same _ _)⟩) eL)
      refine ⟨.ref L, rfl, .ref a, rfl, a, _, _, _, _, rfl, s3 _ _ ex, cls T, na_own_lines T, rfl, E, rfl, ⟨_, sqR (s3 _ _ eE)⟩, fun M hM => ?_⟩
      refine lcG (wk_list (f := fun p : Addr × Str × Str => V.ref p.1) (sqR (s3 _ _ eE)) (good_ref _ _)) hM (sz64' (by omega)) (fun z => !decide (x ∈ [z.2.1, z.2.2])) (fun z y _ => y = .ref z.1) (fun _ _ _ _ _ h => h) (fun z hz v H2 Nx sN _ _ e1 _ yes no => ?_) (fun H2 ys s4 eM pM => ?_)
      · subst e1
        have s5 : Same H H2 := s3.trans (sN.trans (ers_same _ _))
        have tz : H2 z.1 = some (.tup ([z.2.1, z.2.2].map V.str)) := (hqs z hz).s s5
        refine ⟨rfl, .str x, rfl, .ref z.1, rfl, z.1, _, rfl, .inr (.inl (.inl tz)), rfl, flat_strs _, _, rfl, ?_⟩
        rw [inV_str]
        by_cases m : x ∈ [z.2.1, z.2.2]
        · rw [decide_eq_true m]
          exact iteF (no _ (by rw [decide_eq_true m]; rfl) (.refl _))
        · rw [decide_eq_false m]
          exact iteT ⟨.ref z.1, rfl, yes _ _ (by rw [decide_eq_false m]; rfl) (.refl _) rfl⟩
      · have s5 : Same H' H2 := s4.trans (ers_same _ _)
        have hl := ltp_filt ⟨s3 _ _ eE, fun z hz => (hqs z hz).s s3⟩ s5 eM pM
        refine mkq (rows := S.lv.map fun r : List Str => r.filter fun y => !decide (y = x)) (ls := S.ln.filter fun p => !decide (x ∈ [p.1, p.2])) ?_ (.inl ⟨_, ?_, hl⟩) va (q.s (s3.trans s5))
        · rw [ep, List.map_map]
          exact hLL.s s5
        · rw [eq, filt_map (fun p => !decide (x ∈ [p.1, p.2]))]
def sp_S_joined (K : PySem.W.Frag) : Sp := fun vs H Q _ => ∃ (a B : Addr) (S : Sh) (more : Ln), vs = [.ref a, .ref B] ∧ SheetAt K H a S ∧ LT H B more ∧ more.Nodup ∧ (∀ p ∈ more, p ∉ S.ln) ∧ Valid S.lv (S.ln ++ more) ∧ Mk1 K H Q (mkSh S.lv (S.ln ++ more))
theorem f_S_joined : Fn P w K mg base 21 (mA K "joined") (sp_S_joined K) [] := by
  obtain ⟨fd, F⟩ := dd_S_joined T
  have nd := sc_S_joined.nd
  refine fnD F (F.bindsN fun _ _ _ _ _ _ us hl => match us, hl with | [_, _], _ => rfl) sc_S_joined (fun vs H Q E h => ?_) (fun cdv A outer s H vs Q E hr h => ?_)
  · obtain ⟨a, B, S, more, rfl, _⟩ := h; rfl
  · obtain ⟨a, B, S, more, rfl, hS, ⟨ms, em, eB, hms⟩, ndm, nin, va, q⟩ := h
    have hu65 := hu65_of hr
    refine ⟨_, PSs.nox ((pss_cons (ps_if (pt_not (pt_val (pe_f (f_is_list T) hr (by decide) rfl (g_is_list T) (kp_is_list T) (pa_cons (pv 1) pa_nil))))
  (pss_one ps_never)
  pss_nil)
  (pss_cons (ps_asg (pe_callTy (k_list (K := K) rfl) rfl (b_list T) (by decide +kernel) (pa_cons (k_fld (K := K) rfl (pv 0)) pa_nil)) (pg_name (i := 2) nd rfl (by first | exact Or.inl rfl | exact Or.inr rfl)))
  (pss_cons (ps_for PassesOwn.never rfl (k_ienum (K := K) rfl rfl (b_enumerate T) (pa_cons (pv 1) pa_nil)) (k_gtup (K := K) (n := 2) rfl rfl (pgs_cons (pg_name (i := 3) nd rfl (by first | exact Or.inl rfl | exact Or.inr rfl)) (pgs_cons (pg_name (i := 4) nd rfl (by first | exact Or.inl rfl | exact Or.inr rfl)) pgs_nil)))
  (pss_cons (ps_if (pt_not (pt_val (pe_m (f_S_can_be_line T) hr (by decide) (cls T) (m_S_can_be_line T) (pv 0) (pa_cons (pv 4) pa_nil))))
  (pss_one ps_never)
  pss_nil)
  (pss_one (ps_if (pt_cmpR (k_notinD (K := K) rfl hu65) (pv 4) (pv 2) (by with_unfolding_all rfl))
  (pss_one (ps_expr (k_bm (K := K) rfl PySem.F.plainAttrs_list PySem.F.slot_list_append PySem.F.type_list_append mt_append (pv 2) (pa_cons (pv 4) pa_nil))))
  pss_nil))))
  (pss_one (ps_ret (pe_n (mk T) (f_S_init T) hr (by decide) rfl (g_Sheet T) (pa_cons (k_fld (K := K) rfl (pv 0)) (pa_cons (pv 2) pa_nil))))))))), ?_⟩
    have hS0 := hS
    obtain ⟨dx, A, B2, D, E, F, G, kf, kg, ex, hA, _, _, ⟨qs, eq, eE, hqs⟩, _⟩ := hS
    have few := va.few
    rw [List.length_append, eq, em, List.length_map, List.length_map] at few
    refine ⟨.ref B, rfl, B, rfl, .inl ⟨_, eB⟩, fun H1 s1 => ⟨true, rfl, iteF ?_⟩⟩
    refine ⟨.ref a, rfl, a, _, _, _, _, rfl, s1 _ _ ex, cls T, na_own_lines T, rfl, E, _, rfl, .inl (sqR (s1 _ _ eE)), fun f hf => ?_⟩
    have hfH : H f = none := s1.free hf
    have s2 : Same H (ers f (upd H1 f (.lst (qs.map fun p => V.ref p.1)))) := by
      rw [ers_upd]
      exact s1.ers0 hfH
    have ef : (upd H1 f (.lst (qs.map fun p => V.ref p.1))) f = _ := upd_same
    generalize upd H1 f (.lst (qs.map fun p => V.ref p.1)) = H2 at s2 ef ⊢
    refine ⟨.ref B, rfl, B, _, rfl, sqR ((ers_same _ _) _ _ (s2 _ _ eB)), ?_⟩
    refine forG (wk_enum (K := K) (f := fun p : Addr × Str × Str => V.ref p.1) (sqR eB) (good_ref _ _)) (fun i σ H' => ∃ y3 y4, σ = [some (.ref a), some (.ref B), some (.ref f), y3, y4] ∧ Same H (ers f H') ∧ H' f = some (.lst ((qs ++ ms.take i).map fun p => V.ref p.1)))
      ⟨none, none, rfl, s2, by rw [ef]; simp⟩ (fun i σ H' ⟨_, _, _, s, _⟩ => (s.trans (ers_same _ _)).g) ?_ ?_
    · rintro i0 ⟨z, i⟩ v σ H3 H4 e ⟨y3, y4, rfl, s3, ef3⟩ sm ⟨t, rfl, et⟩
      obtain ⟨e, rfl⟩ := zipIdx_at e
      have mz : z ∈ ms := List.mem_of_getElem? e
      have s4 : Same H (ers f H4) := s3.trans (sm.ers f)
      have s4' : Same H H4 := s4.trans (ers_same _ _)
      have mp : z.2 ∈ more := by rw [em]; exact List.mem_map.mpr ⟨z, mz, rfl⟩
      have hb := va.ok z.2 (List.mem_append_right _ mp)
      refine ⟨t, _, rfl, .inl (.inl et), rfl, _, _, rfl, _, _, rfl, rfl, ?_⟩
      refine ⟨.ref a, rfl, a, dx, _, rfl, s4' _ _ ex, rfl, .ref z.1, rfl, a, z.1, S, z.2, rfl, hS0.s s4', (hms z mz).s s4', va.nd, hb, fun H5 s5 => ⟨true, rfl, iteF ?_⟩⟩
      have s5' : Same H (ers f H5) := s4.trans (s5.ers f)
      have s5'' : Same H H5 := s5'.trans (ers_same _ _)
      have ef5 := s5 _ _ (sm _ _ ef3)
      have lt5 : LT H5 f ((qs ++ ms.take i).map (·.2)) := ⟨_, rfl, ef5, fun y hy => by
        rcases List.mem_append.mp hy with h | h
        · exact (hqs y h).s s5''
        · exact (hms y (List.mem_of_mem_take h)).s s5''⟩
      have nm : NmLn ((qs ++ ms.take i).map (·.2)) := fun p hp => by
        refine va.nmLn p ?_
        rw [List.map_append] at hp
        rcases List.mem_append.mp hp with h | h
        · rw [eq]
          exact List.mem_append_left _ h
        · refine List.mem_append_right _ ?_
          rw [em]
          obtain ⟨y, hy, rfl⟩ := List.mem_map.mp h
          exact List.mem_map.mpr ⟨y, List.mem_of_mem_take hy, rfl⟩
      have nip : z.2 ∉ (qs ++ ms.take i).map (·.2) := fun hp => by
        rw [List.map_append] at hp
        rcases List.mem_append.mp hp with h | h
        · exact nin z.2 mp (by rw [eq]; exact h)
        · rw [List.map_take] at h
          obtain ⟨j, hj, ej⟩ := List.getElem_of_mem h
          rw [List.length_take] at hj
          rw [List.getElem_take] at ej
          have e2 : (ms.map (·.2))[j]? = some z.2 := by rw [← ej]; exact List.getElem?_eq_getElem _
          have e3 : (ms.map (·.2))[i]? = some z.2 := by rw [List.getElem?_map, e]; rfl
          rw [em] at ndm
          have := nd_ix ndm e2 e3
          omega
      have il : i < ms.length := (List.getElem?_eq_some_iff.mp e).1
      refine ⟨.ref z.1, rfl, .ref f, rfl, encP z.2, _, TP.dp ((hms z mz).s s5''), LT.dp lt5, shp_P (va.nmLn z.2 (List.mem_append_right _ mp)), shp_Ln nm, true, ?_, iteT ?_⟩
      · rw [any_P, decide_eq_false nip]
        rfl
      refine ⟨.ref f, rfl, .inl ⟨rfl, _, sqR ef5⟩, .ref z.1, rfl, f, _, _, rfl, rfl, ef5, sz64' (by rw [List.length_map, List.length_append, List.length_take]; omega), _, _, rfl, ?_, ?_⟩
      · rw [ers_upd]
        exact s5'
      · rw [upd_same, List.take_add_one, e]
        simp
    · rintro σ H3 ⟨y3, y4, rfl, s3, ef3⟩
      rw [List.length_zipIdx, List.take_length] at ef3
      have s3' : Same H H3 := s3.trans (ers_same _ _)
      refine ⟨.ref a, rfl, a, _, _, _, _, rfl, s3' _ _ ex, cls T, na_own_levels T, rfl, .ref f, rfl, ?_⟩
      refine mkq (hA.s s3') (.inl ⟨qs ++ ms, ?_, ef3, fun y hy => ?_⟩) va (q.s s3')
      · rw [eq, em, List.map_append]
      · rcases List.mem_append.mp hy with h | h
        · exact (hqs y h).s s3'
        · exact (hms y h).s s3'
end
end U

set_option linter.all false
set_option maxRecDepth 100000
set_option maxHeartbeats 2000000
/-! Sorting; parts as data. -/
namespace U
open PySem PySem.Spec PyProof.Rows L2 UR
theorem str_ext {a b : Str} (h : a.cps.toList = b.cps.toList) : a = b := by
  cases a
  cases b
  simp only at h
  congr
  exact Array.toList_inj.mp h
theorem sle_trans {a b c : Str} (h : sle a b = true) (k : sle b c = true) : sle a c = true := decide_eq_true (List.le_trans (of_decide_eq_true h) (of_decide_eq_true k))
theorem sle_total (a b : Str) : sle a b = true ∨ sle b a = true := (List.le_total a.cps.toList b.cps.toList).imp (fun h => decide_eq_true h) fun h => decide_eq_true h
theorem sle_anti {a b : Str} (h : sle a b = true) (k : sle b a = true) : a = b := str_ext (List.le_antisymm (of_decide_eq_true h) (of_decide_eq_true k))
theorem ple_trans {a b c : Str × Str} (h : ple a b = true) (k : ple b c = true) : ple a c = true := by
  unfold ple at *
  by_cases h1 : a.1 = b.1
  · rw [if_pos h1] at h
    by_cases h2 : b.1 = c.1
    · rw [if_pos h2] at k
      rw [if_pos (h1.trans h2)]
      exact sle_trans h k
    · rw [if_neg h2] at k
      rw [if_neg (fun e => h2 (h1.symm.trans e)), h1]
      exact k
  · rw [if_neg h1] at h
    by_cases h2 : b.1 = c.1
    · rw [if_neg (fun e => h1 (e.trans h2.symm)), ← h2]
      exact h
    · rw [if_neg h2] at k
      by_cases h3 : a.1 = c.1
      · rw [h3] at h
        exact (h2 (sle_anti k h)).elim
      · rw [if_neg h3]
        exact sle_trans h k
theorem ple_total (a b : Str × Str) : ple a b = true ∨ ple b a = true := by
  unfold ple
  by_cases h : a.1 = b.1
  · rw [if_pos h, if_pos h.symm]
    exact sle_total _ _
  · rw [if_neg h, if_neg (Ne.symm h)]
    exact sle_total _ _
theorem ple_anti {a b : Str × Str} (h : ple a b = true) (k : ple b a = true) : a = b := by
  unfold ple at *
  by_cases e : a.1 = b.1
  · rw [if_pos e] at h
    rw [if_pos e.symm] at k
    exact Prod.ext e (sle_anti h k)
  · rw [if_neg e] at h
    rw [if_neg (Ne.symm e)] at k
    exact (e (sle_anti h k)).elim
def UpS (l : List Str) : Prop := l.Pairwise fun a b => sle a b = true
def UpP (l : Ln) : Prop := l.Pairwise fun a b => ple a b = true
theorem srt_up (l : List Str) : UpS (srt l) := List.pairwise_mergeSort (le := sle) (fun a b c => sle_trans) (fun a b => by rcases sle_total a b with h | h <;> simp [h]) l
theorem srtL_up (l : Ln) : UpP (srtL l) := List.pairwise_mergeSort (le := ple) (fun a b c => ple_trans) (fun a b => by rcases ple_total a b with h | h <;> simp [h]) l
theorem srt_id {l : List Str} (h : UpS l) : srt l = l := List.mergeSort_of_pairwise h
theorem srtL_id {l : Ln} (h : UpP l) : srtL l = l := List.mergeSort_of_pairwise h
theorem srt_perm_eq {l m : List Str} (h : l.Perm m) : srt l = srt m := List.Perm.eq_of_pairwise (fun a b _ _ => sle_anti) (srt_up l) (srt_up m) (((srt_perm l).trans h).trans (srt_perm m).symm)
theorem srtL_perm_eq {l m : Ln} (h : l.Perm m) : srtL l = srtL m := List.Perm.eq_of_pairwise (fun a b _ _ => ple_anti) (srtL_up l) (srtL_up m) (((srtL_perm l).trans h).trans (srtL_perm m).symm)
/-- a sheet as it is made -/
structure Up (S : Sh) : Prop where
  lv : ∀ r ∈ S.lv, UpS r
  ln : UpP S.ln
theorem mkSh_up (rows : Lv) (ls : Ln) : Up (mkSh rows ls) := ⟨fun r m => by obtain ⟨r', _, rfl⟩ := List.mem_map.mp m; exact srt_up r', srtL_up ls⟩
theorem map_id_of {α : Type} {f : α → α} : ∀ {l : List α}, (∀ a ∈ l, f a = a) → l.map f = l
  | [], _ => rfl
  | a :: l, h => by rw [List.map_cons, h a List.mem_cons_self, map_id_of fun b m => h b (List.mem_cons_of_mem _ m)]
theorem mkSh_id {S : Sh} (h : Up S) : mkSh S.lv S.ln = S := by
  unfold mkSh
  rw [map_id_of fun r m => srt_id (h.lv r m), srtL_id h.ln]
theorem restr_up {S : Sh} (h : Up S) (x : Str) : Up (restr S x) := ⟨fun r m => by obtain ⟨r', m', rfl⟩ := List.mem_map.mp m; exact (h.lv r' m').filter _, h.ln.filter _⟩
/-- the plan's own parts: the same, its rows cut, then sorted -/
theorem srt_filter (f : Str → Bool) (l : List Str) : srt (l.filter f) = (srt l).filter f := by
  rw [srt_perm_eq ((srt_perm l).symm.filter f)]
  exact srt_id ((srt_up l).filter f)
theorem srtL_filter (f : Str × Str → Bool) (l : Ln) : srtL (l.filter f) = (srtL l).filter f := by
  rw [srtL_perm_eq ((srtL_perm l).symm.filter f)]
  exact srtL_id ((srtL_up l).filter f)
open Classical in
theorem roots_snoc (ln : Ln) (x : Str) : ∀ (l seen : List Str), roots ln seen (l ++ [x]) = roots ln seen l ++ (if ∃ y ∈ seen ++ l, Conn ln y x then [] else [x])
  | [], seen => by
    show roots ln seen [x] = _
    unfold roots
    rw [List.append_nil]
    by_cases h : ∃ y ∈ seen, Conn ln y x
    · rw [if_pos h, if_pos h]
      rfl
    · rw [if_neg h, if_neg h]
      rfl
  | z :: l, seen => by
    have ih := roots_snoc ln x l (seen ++ [z])
    rw [List.append_assoc, List.singleton_append] at ih
    show roots ln seen (z :: (l ++ [x])) = roots ln seen (z :: l) ++ _
    unfold roots
    by_cases h : ∃ y ∈ seen, Conn ln y z
    · rw [if_pos h, if_pos h]
      exact ih
    · rw [if_neg h, if_neg h, ih]
      rfl
theorem filt_Beside {lv : Lv} {f : Str → Bool} {p : Str × Str} (h : Beside lv p) (h1 : f p.1 = true) (h2 : f p.2 = true) : Beside (lv.map fun r => r.filter f) p := by
  obtain ⟨i, r, r', e1, e2, m1, m2⟩ := h
  exact ⟨i, r.filter f, r'.filter f, by rw [List.getElem?_map, e1]; rfl, by rw [List.getElem?_map, e2]; rfl, List.mem_filter.mpr ⟨m1, h1⟩, List.mem_filter.mpr ⟨m2, h2⟩⟩
/-- some of the nodes, some of the lines among them -/
theorem valid_sub {lv : Lv} {ln : Ln} (v : Valid lv ln) (f : Str → Bool) (g : Str × Str → Bool) (h : ∀ p ∈ ln, g p = true → f p.1 = true ∧ f p.2 = true) : Valid (lv.map fun r => r.filter f) (ln.filter g) where
  ne := by simpa using v.ne
  tall := by rw [List.length_map]; exact v.tall
  wide := fun r m => by
    obtain ⟨r', m', rfl⟩ := List.mem_map.mp m
    exact Nat.le_trans (List.length_filter_le _ _) (v.wide r' m')
  names := fun r m x mx => by
    obtain ⟨r', m', rfl⟩ := List.mem_map.mp m
    exact v.names r' m' x (List.mem_filter.mp mx).1
  nd := by
    have e : (lv.map fun r => r.filter f).flatten = lv.flatten.filter f := by
      rw [List.filter_flatten]
    rw [e]
    exact v.nd.filter _
  few := Nat.le_trans (List.length_filter_le _ _) v.few
  lnd := v.lnd.filter _
  ok := fun p m => by
    obtain ⟨m1, m2⟩ := List.mem_filter.mp m
    obtain ⟨a, b⟩ := h p m1 m2
    exact filt_Beside (v.ok p m1) a b
open Classical in
theorem restr_valid {S : Sh} (v : Valid S.lv S.ln) (x : Str) : Valid (restr S x).lv (restr S x).ln := by
  refine valid_sub v (fun y => decide (Conn S.ln x y)) (fun p => decide (Conn S.ln x p.1)) fun p m h => ?_
  exact ⟨h, decide_eq_true (.up (of_decide_eq_true h) m)⟩
open Classical in
theorem restr_of {S : Sh} {x : Str} {l : List Str} (h : ∀ y, y ∈ l ↔ Conn S.ln x y) : restr S x = ⟨S.lv.map fun r => r.filter fun y => decide (y ∈ l), S.ln.filter fun p => decide (p.1 ∈ l)⟩ := by
  unfold restr
  congr
  · funext r
    refine List.filter_congr fun y _ => ?_
    by_cases m : y ∈ l
    · rw [decide_eq_true m, decide_eq_true ((h y).mp m)]
    · rw [decide_eq_false m, decide_eq_false (fun c => m ((h y).mpr c))]
  · funext p
    by_cases m : p.1 ∈ l
    · rw [decide_eq_true m, decide_eq_true ((h p.1).mp m)]
    · rw [decide_eq_false m, decide_eq_false (fun c => m ((h p.1).mpr c))]
end U

set_option linter.all false
set_option maxRecDepth 100000
set_option maxHeartbeats 8000000
/-! Walks, eleventh part: parts. -/
namespace U
open PySem PySem.Spec PyProof.Rows L2 UR
theorem merge_some {k : Key} : ∀ (more kvs : List (Key × V)), (valV (mergeK kvs more) k).isSome = true ↔ (valV kvs k).isSome = true ∨ k ∈ more.map fun p : Key × V => p.1
  | [], kvs => by simp [mergeK]
  | p :: more, kvs => by
    have ih := merge_some (k := k) more (putK kvs p.1 p.2)
    show (valV (mergeK (putK kvs p.1 p.2) more) k).isSome = true ↔ _
    rw [ih, valV_put]
    by_cases h : k = p.1
    · simp [h]
    · simp [h]
theorem merge_len : ∀ (more kvs : List (Key × V)), (mergeK kvs more).length ≤ kvs.length + more.length
  | [], kvs => by simp [mergeK]
  | p :: more, kvs => by
    have ih := merge_len more (putK kvs p.1 p.2)
    have h := putK_len (kvs := kvs) (k := p.1) (v := p.2)
    show (mergeK (putK kvs p.1 p.2) more).length ≤ _
    rw [List.length_cons]
    omega
theorem keys_some {l : List Str} {kvs : List (Key × V)} (h : kvs.map (·.1) = l.map Sum.inr) (z : Str) : (valV kvs (.inr z)).isSome = decide (z ∈ l) := by
  by_cases m : z ∈ l
  · have : (Sum.inr z : Key) ∈ kvs.map (·.1) := by rw [h]; exact List.mem_map.mpr ⟨z, m, rfl⟩
    rw [decide_eq_true m]
    rcases e : valV kvs (.inr z) with _ | v
    · exfalso
      clear h m
      induction kvs with
      | nil => cases this
      | cons p r ih =>
        by_cases hp : p.1 = .inr z
        · rw [valV_pos hp] at e
          cases e
        · rw [valV_neg hp] at e
          rw [List.map_cons] at this
          rcases List.mem_cons.mp this with h | h
          · exact hp h.symm
          · exact ih h e
    · rfl
  · have : (Sum.inr z : Key) ∉ kvs.map (·.1) := by rw [h]; exact fun q => m (inr_mem q)
    rw [valV_none this, decide_eq_false m]
    rfl
theorem same_ers2 {H H' : Hp} {f k : Addr} (s : Same H H') : Same (ers f (ers k H)) (ers f (ers k H')) := (s.ers k).ers f
section
variable {P : Program} {w : World} {K : PySem.W.Frag} {mg : Str → Option Value} {base : Heap} (T : TX K mg)
include T
def sp_S_parts (K : PySem.W.Frag) : Sp := fun vs H Q _ => ∃ (a : Addr) (S : Sh), vs = [.ref a] ∧ SheetAt K H a S ∧ Valid S.lv S.ln ∧ Up S ∧
  ∀ H' p (as : List Addr), Same H H' → H p = none → H' p = some (.lst (as.map V.ref)) → Paired (SheetAt K (ers p H')) as (partsOf S) → Q (.ref p) H'
theorem f_S_parts : Fn P w K mg base 21 (mA K "parts") (sp_S_parts K) [] := by
  obtain ⟨fd, F⟩ := dd_S_parts T
  have nd := sc_S_parts.nd
  refine fnD F (F.bindsN fun _ _ _ _ _ _ us hl => match us, hl with | [_], _ => rfl) sc_S_parts (fun vs H Q E h => ?_) (fun cdv A outer s H vs Q E hr h => ?_)
  · obtain ⟨a, S, rfl, _⟩ := h; rfl
  · obtain ⟨a, S, rfl, hS, va, up, q⟩ := h
    have hu := hu_of hr
    refine ⟨_, PSs.nox ((pss_cons (ps_par (i := 1) (j := 2) rfl nd rfl rfl (by decide) rfl rfl (pa_cons (pe_lst pa_nil) (pa_cons pe_dnewK pa_nil)) (by rfl))
  (pss_cons (ps_for PassesOwn.never rfl (k_ilist (K := K) rfl (k_fld (K := K) rfl (pv 0))) (pg_name (i := 3) nd rfl (by first | exact Or.inl rfl | exact Or.inr rfl))
  (pss_one (ps_if (pt_cmp (pc_dnotin hu (pv 3) (pv 2)))
  (pss_cons (ps_asg (pe_dc (own := [("other", 5)]) (g := gName 5) (tt := tYes) rfl nd (k_ilist (K := K) rfl (pe_m (f_S_hanging T) hr (by decide) (cls T) (m_S_hanging T) (pv 0) (pa_cons (pv 3) pa_nil))) (blkOk_by (by rfl)) (fun _ _ _ _ _ => (pg_name (i := 5) nd rfl (by first | exact Or.inl rfl | exact Or.inr rfl))) (fun _ _ _ _ _ => pts_nil) (fun _ _ _ _ _ => (pv 5)) (fun _ _ _ _ _ => pe_bl)) (pg_name (i := 4) nd rfl (by first | exact Or.inl rfl | exact Or.inr rfl)))
  (pss_cons (ps_expr (k_bm (K := K) rfl PySem.F.plainAttrs_dict PySem.F.slot_dict_update PySem.F.type_dict_update mt_update (pv 2) (pa_cons (pv 4) pa_nil)))
  (pss_cons (ps_setLc (own := [("names", 8)]) (g := gName 8) (tt := tYes) (i := 6) rfl nd rfl rfl (sw_true rfl rfl rfl (by decide +kernel)) (k_ilist (K := K) rfl (k_fld (K := K) rfl (pv 0))) (blkOk_by (by rfl)) (fun _ _ _ _ _ => (pg_name (i := 8) nd rfl (by first | exact Or.inl rfl | exact Or.inr rfl))) (fun _ _ _ _ _ => pts_nil) (fun _ _ _ _ _ => (pe_lc (own := [("one", 7)]) (g := gName 7) rfl nd (k_ilist (K := K) rfl (pv 8)) (blkOk_by (by rfl)) (fun _ _ _ _ _ => (pg_name (i := 7) nd rfl (by first | exact Or.inl rfl | exact Or.inr rfl))) (fun _ _ _ _ _ => (pts_one (pt_cmp (pc_din hu (pv 7) (pv 4))))) (fun _ _ _ _ _ => (pv 7)))))
  (pss_one (ps_expr (k_bm (K := K) rfl PySem.F.plainAttrs_list PySem.F.slot_list_append PySem.F.type_list_append mt_append (pv 1) (pa_cons (pe_n (mk T) (f_S_init T) hr (by decide) rfl (g_Sheet T) (pa_cons (pv 6) (pa_cons (pe_lc (own := [("line", 9)]) (g := gName 9) rfl nd (k_ilist (K := K) rfl (k_fld (K := K) rfl (pv 0))) (blkOk_by (by rfl)) (fun _ _ _ _ _ => (pg_name (i := 9) nd rfl (by first | exact Or.inl rfl | exact Or.inr rfl))) (fun _ _ _ _ _ => (pts_one (pt_cmp (pc_din hu (pe_ix (k_ixt (K := K) rfl) (pv 9) pe_int (fun _ _ => rfl)) (pv 4))))) (fun _ _ _ _ _ => (pv 9))) pa_nil))) pa_nil)))))))
  pss_nil)))
  (pss_one (ps_ret (pv 1)))))), ?_⟩
    have hS0 := hS
    obtain ⟨dx, A, B, D, E, F, G, kf, kg, ex, ⟨ps, ep, eA, hps⟩, eB, eD, ⟨qs, eq, eE, hqs⟩, _⟩ := hS
    have nlen := va.flat
    have tall := va.tall
    rw [ep, List.length_map] at tall
    have few := va.few
    rw [eq, List.length_map] at few
    -- found, known = ([], {})
    refine ⟨Nat.zero_le _, fun f hf k hk => ⟨_, _, rfl, ?_⟩⟩
    have s1 : Same H (upd H f (.lst [])) := same_new hf
    have s2 : Same (upd H f (.lst [])) (upd (upd H f (.lst [])) k (.dK [])) := same_new hk
    have hkH : H k = none := s1.free hk
    have ef : (upd (upd H f (.lst [])) k (.dK [])) f = some (.lst []) := s2 _ _ upd_same
    have ek : (upd (upd H f (.lst [])) k (.dK [])) k = some (.dK []) := upd_same
    have s12 := ((s1.trans s2).ers0 hkH).ers0 hf
    generalize upd (upd H f (.lst [])) k (.dK []) = H2 at ef ek s12 ⊢
    have s12' : Same H H2 := (s12.trans (ers_same _ _)).trans (ers_same _ _)
    refine ⟨.ref a, rfl, a, _, _, _, _, rfl, s12' _ _ ex, cls T, na_own_nodes T, rfl, B, rfl, ⟨_, (eB.s s12').sq⟩, ?_⟩
    refine forG (wk_list (K := K) (f := V.str) eB.sq (good_str _)) (fun i σ H' => ∃ (y3 y4 y5 y6 y7 y8 y9 : Option V) (kvs : List (Key × V)) (as : List Addr), σ = [some (.ref a), some (.ref f), some (.ref k), y3, y4, y5, y6, y7, y8, y9] ∧ Same H (ers f (ers k H')) ∧
        H' f = some (.lst (as.map V.ref)) ∧ H' k = some (.dK kvs) ∧ kvs.length ≤ 216 * i ∧ (∀ z, (valV kvs (.inr z)).isSome = true ↔ ∃ y ∈ S.lv.flatten.take i, Conn S.ln y z) ∧ Paired (SheetAt K (ers f (ers k H'))) as ((roots S.ln [] (S.lv.flatten.take i)).map (restr S)))
      ⟨none, none, none, none, none, none, none, [], [], rfl, s12, ef, ek, Nat.le_refl _, fun z => ⟨fun h => (by cases h), fun ⟨y, h, _⟩ => (by simp at h)⟩, by unfold roots; exact .nil⟩ (fun i σ H' ⟨_, _, _, _, _, _, _, _, _, _, s, _⟩ => ((s.trans (ers_same _ _)).trans (ers_same _ _)).g) ?_ ?_
    · rintro i x v σ H3 H4 exi ⟨y3, y4, y5, y6, y7, y8, y9, kvs, as, rfl, s3, ef3, ek3, lk, mem, pr⟩ sm rfl
      have mx : x ∈ S.lv.flatten := List.mem_of_getElem? exi
      have il : i < S.lv.flatten.length := (List.getElem?_eq_some_iff.mp exi).1
      have s4 : Same H (ers f (ers k H4)) := s3.trans (same_ers2 sm)
      have s4' : Same H H4 := (s4.trans (ers_same _ _)).trans (ers_same _ _)
      have ef4 := sm _ _ ef3
      have ek4 := sm _ _ ek3
      have pr4 : Paired (SheetAt K (ers f (ers k H4))) as ((roots S.ln [] (S.lv.flatten.take i)).map (restr S)) := L2.Paired.mapP pr fun _ _ h => h.s (same_ers2 sm)
      have etk : S.lv.flatten.take (i + 1) = S.lv.flatten.take i ++ [x] := by rw [List.take_add_one, exi]; rfl
      have rts : roots S.ln [] (S.lv.flatten.take (i + 1)) = roots S.ln [] (S.lv.flatten.take i) ++ (open Classical in if ∃ y ∈ S.lv.flatten.take i, Conn S.ln y x then [] else [x]) := by
        rw [etk, roots_snoc, List.nil_append]
      refine ⟨.str x, rfl, .ref k, rfl, k, _, rfl, DGet.k (k := .inr x) ek4, _, rfl, ?_⟩
      by_cases kn : (valV kvs (.inr x)).isSome = true
      · rw [kn]
        have hkn := (mem x).mp kn
        refine iteF ⟨_, _, _, _, _, _, _, kvs, as, rfl, s4, ef4, ek4, by omega, fun z => ?_, ?_⟩
        · rw [mem z, etk]
          constructor
          · rintro ⟨y, hy, c⟩
            exact ⟨y, List.mem_append_left _ hy, c⟩
          · rintro ⟨y, hy, c⟩
            rcases List.mem_append.mp hy with h | h
            · exact ⟨y, h, c⟩
            · cases List.mem_singleton.mp h
              obtain ⟨y0, h0, c0⟩ := hkn
              exact ⟨y0, h0, c0.trans c⟩
        · rw [rts, if_pos hkn, List.append_nil]
          exact pr4
      · have kn' : (valV kvs (.inr x)).isSome = false := by simpa using kn
        rw [kn']
        have hkn : ¬ ∃ y ∈ S.lv.flatten.take i, Conn S.ln y x := fun h => kn ((mem x).mpr h)
        refine iteT ?_
        -- some = {other: True for other in self.hanging(node)}
        refine ⟨.ref a, rfl, a, dx, _, rfl, s4' _ _ ex, rfl, .str x, rfl, a, S, x, rfl, hS0.s s4', va, mx, fun H5 hl l s5 nhl el ndl conl => ⟨hl, rfl, ⟨_, el.sq⟩, fun D2 hD2 => ?_⟩⟩
        have s5' : Same H (ers f (ers k H5)) := s4.trans (same_ers2 s5)
        have ef5 := s5 _ _ ef4
        have ek5 := s5 _ _ ek4
        have llen : l.length ≤ S.lv.flatten.length := nodup_len ndl fun y hy => conn_nodes va mx ((conl y).mp hy)
        refine dcG (β := Str) (key := Sum.inr) (wk_list (f := V.str) el.sq (good_str _)) hD2 (sz64' (by omega)) (inr_nodup ndl) (fun _ v _ => v = .bl true) (fun _ _ _ _ _ h => h) (fun y hy v H' Nx sN _ _ e _ yes => ?_) (fun H6 ks s6 e6 pp => ?_)
        · subst e
          exact ⟨rfl, tyes (iteT ⟨.str y, rfl, yes _ _ (.refl _) rfl⟩)⟩
        have s6' : Same H5 H6 := s6.trans (ers_same _ _)
        have kkeys : ks.map (·.1) = l.map Sum.inr := by
          clear mem conl e6 s6 s6' el llen ndl
          induction pp with
          | nil => rfl
          | cons r t ih => rw [List.map_cons, List.map_cons, r.1, ih]
        have klen : ks.length = l.length := by
          have := congrArg List.length kkeys
          rwa [List.length_map, List.length_map] at this
        have nkD : k ≠ D2 := fun e => by rw [← e, ek5] at hD2; cases hD2
        have nfD : f ≠ D2 := fun e => by rw [← e, ef5] at hD2; cases hD2
        have ef6 := s6' _ _ ef5
        have ek6 := s6' _ _ ek5
        have s6h : Same H (ers f (ers k H6)) := s5'.trans (same_ers2 s6')
        have hsome : ∀ z, (valV ks (.inr z)).isSome = decide (z ∈ l) := keys_some kkeys
        -- known.update(some)
        refine ⟨.ref k, rfl, .inr (.inr (.inl ⟨rfl, .inl ⟨_, ek6⟩⟩)), .ref D2, rfl, k, D2, _, _, rfl, rfl, nkD, ek6, e6, sz64 (by omega), ?_⟩
        have e7k : (upd H6 k (.dK (mergeK kvs ks))) k = some (.dK (mergeK kvs ks)) := upd_same
        have e7f : (upd H6 k (.dK (mergeK kvs ks))) f = _ := (upd_ne (ne_of ef6 ek6 (fun z => nomatch z))).trans ef6
        have e7D : (upd H6 k (.dK (mergeK kvs ks))) D2 = _ := (upd_ne nkD.symm).trans e6
        have s67 : ers k (upd H6 k (.dK (mergeK kvs ks))) = ers k H6 := ers_upd _ _ _
        have s7h : Same H (ers f (ers k (upd H6 k (.dK (mergeK kvs ks))))) := by rw [s67]; exact s6h
        have pr7 : Paired (SheetAt K (ers f (ers k (upd H6 k (.dK (mergeK kvs ks)))))) as ((roots S.ln [] (S.lv.flatten.take i)).map (restr S)) := by
          rw [s67]
          exact L2.Paired.mapP pr4 fun _ _ h => h.s (same_ers2 (s5.trans s6'))
        generalize upd H6 k (.dK (mergeK kvs ks)) = H7 at e7k e7f e7D s7h pr7 ⊢
        have s7 : Same H H7 := (s7h.trans (ers_same _ _)).trans (ers_same _ _)
        -- levels
        refine ⟨.ref a, rfl, a, _, _, _, _, rfl, s7 _ _ ex, cls T, na_own_levels T, rfl, A, rfl, ⟨_, sqR (s7 _ _ eA)⟩, fun L hL => ?_⟩
        refine lcG (wk_list (f := fun p : Addr × List Str => V.ref p.1) (sqR (s7 _ _ eA)) (good_ref _ _)) hL (sz64' (by omega)) (fun _ => true) (fun z y G => ∃ t, y = .ref t ∧ LS G t (z.2.filter fun y => decide (y ∈ l))) (fun z y G G' g ⟨t, e, h⟩ => ⟨t, e, h.s g⟩) (fun z hz v H' Nx sN _ ⟨acc, eacc⟩ e _ yes no => ?_) (fun H8 ys s8 eL pp2 => ?_)
        · subst e
          have sN' := sN.trans (ers_same _ _)
          have hz1 := (hps _ hz).s (s7.trans sN')
          have wd := va.wide z.2 (by rw [ep]; exact List.mem_map.mpr ⟨z, hz, rfl⟩)
          refine ⟨rfl, tyes (iteT ⟨.ref z.1, rfl, z.1, rfl, ⟨_, hz1.sq⟩, fun M hM => ?_⟩)⟩
          refine lcG (wk_list (f := V.str) hz1.sq (good_str _)) hM (sz64' (by omega)) (fun y => decide (y ∈ l)) (fun z v _ => v = .str z) (fun _ _ _ _ _ h => h) (fun y hy v H2 Nx2 sN2 _ _ e _ yes2 no2 => ?_) (fun H2 ys2 s4 e4 p4 => ?_)
          · subst e
            refine ⟨rfl, .str y, rfl, .ref D2, rfl, D2, _, rfl, DGet.k (k := .inr y) ((ers_same _ _) _ _ (sN2 _ _ (sN' _ _ e7D))), _, rfl, ?_⟩
            rw [hsome y]
            by_cases m : y ∈ l
            · rw [decide_eq_true m]
              exact iteT ⟨.str y, rfl, yes2 _ _ (decide_eq_true m) (.refl _) rfl⟩
            · rw [decide_eq_false m]
              exact iteF (no2 _ (decide_eq_false m) (.refl _))
          · have nM : M ≠ L := fun e => by rw [e, eacc] at hM; cases hM
            exact yes _ _ rfl (s4.trans (ers_same _ _)) ⟨M, rfl, (ers_ne nM).trans (by rw [e4, paired_eq (f := V.str) p4])⟩
        rw [filter_yes] at pp2
        have s8' : Same H7 H8 := s8.trans (ers_same _ _)
        have hLL : LL H8 L (restr S x).lv := by
          have h := (LL.made (gg := fun z : Addr × List Str => z.2.filter fun y => decide (y ∈ l)) (L2.Paired.mapP pp2 fun z y ⟨t, e, h⟩ => ⟨t, e, h.s (ers_same _ _)⟩) eL)
          have e : (restr S x).lv = ps.map fun z => z.2.filter fun y => decide (y ∈ l) := by
            rw [restr_of conl]
            show S.lv.map _ = _
            rw [ep, List.map_map]
            rfl
          rw [e]
          exact h
        have ef8 := s8' _ _ e7f
        have ek8 := s8' _ _ e7k
        -- found.append(Sheet(..))
        refine ⟨.ref f, rfl, .inl ⟨rfl, _, sqR ef8⟩, .ref L, rfl, .ref a, rfl, a, _, _, _, _, rfl, s8' _ _ (s7 _ _ ex), cls T, na_own_lines T, rfl, E, rfl, ⟨_, sqR (s8' _ _ (s7 _ _ eE))⟩, fun M hM => ?_⟩
        refine lcG (wk_list (f := fun p : Addr × Str × Str => V.ref p.1) (sqR (s8' _ _ (s7 _ _ eE))) (good_ref _ _)) hM (sz64' (by omega)) (fun z => decide (z.2.1 ∈ l)) (fun z y _ => y = .ref z.1) (fun _ _ _ _ _ h => h) (fun z hz v H2 Nx sN _ _ e1 _ yes no => ?_) (fun H9 ys9 s9 eM pM => ?_)
        · subst e1
          have sN' := sN.trans (ers_same _ _)
          have tz := (hqs z hz).s ((s7.trans s8').trans sN')
          refine ⟨rfl, .ref z.1, rfl, z.1, _, 0, .str z.2.1, rfl, rfl, tz.sq, rfl, .ref D2, rfl, D2, _, rfl, DGet.k (k := .inr z.2.1) (sN' _ _ (s8' _ _ e7D)), _, rfl, ?_⟩
          rw [hsome]
          by_cases m : z.2.1 ∈ l
          · rw [decide_eq_true m]
            exact iteT ⟨.ref z.1, rfl, yes _ _ (decide_eq_true m) (.refl _) rfl⟩
          · rw [decide_eq_false m]
            exact iteF (no _ (decide_eq_false m) (.refl _))
        have s9' : Same H8 H9 := s9.trans (ers_same _ _)
        have hLT : LT H9 M (restr S x).ln := by
          have hl := ltp_filt ⟨s8' _ _ (s7 _ _ eE), fun z hz => (hqs z hz).s (s7.trans s8')⟩ s9' eM pM
          refine ⟨_, ?_, hl⟩
          rw [filt_map (fun p => decide (p.1 ∈ l)), ← eq, restr_of conl]
        have ef9 := s9' _ _ ef8
        have ek9 := s9' _ _ ek8
        refine mkq2 (hLL.s s9') (.inl hLT) (restr_valid va x) fun y H10 s10 ny hSh => ?_
        have ef10 := s10 _ _ ef9
        have ek10 := s10 _ _ ek9
        rw [mkSh_id (restr_up up x)] at hSh
        have alen : as.length ≤ 216 := by
          have h1 := pr.length
          rw [List.length_map] at h1
          have h2 : ∀ (l seen : List Str), (roots S.ln seen l).length ≤ l.length := by
            intro l
            induction l with
            | nil => intro seen; exact Nat.zero_le _
            | cons x l ih =>
              intro seen
              unfold roots
              split
              · exact Nat.le_trans (ih _) (Nat.le_succ _)
              · rw [List.length_cons, List.length_cons]
                exact Nat.succ_le_succ (ih _)
          have h3 := h2 (S.lv.flatten.take i) []
          rw [List.length_take] at h3
          omega
        have sAll : Same (ers f (ers k H7)) (ers f (ers k H10)) := same_ers2 ((s8'.trans s9').trans s10)
        have hSh2 : SheetAt K (ers f (ers k H10)) y (restr S x) := hSh.s (dropL_ers2 (by rw [ef9]; rfl) (by rw [ek9]; rfl))
        refine ⟨f, _, _, rfl, rfl, ef10, sz64' (by rw [List.length_map]; omega), _, _, _, _, _, _, _, _, as ++ [y], rfl, ?_, ?_, ?_, Nat.le_trans (merge_len ks kvs) (by omega), fun z => ?_, ?_⟩
        · exact fun b o e => by
            have e2 := (s7h.trans sAll) b o e
            obtain ⟨n1, e2⟩ := ers_some e2
            obtain ⟨n2, e2⟩ := ers_some e2
            rw [ers_ne n1, ers_ne n2, upd_ne n1]
            exact e2
        · rw [upd_same, List.map_append]
          rfl
        · exact (upd_ne (ne_of ek10 ef10 (fun z => nomatch z))).trans ek10
        · rw [merge_some, mem z, kkeys, etk]
          constructor
          · rintro (⟨y, hy, c⟩ | h)
            · exact ⟨y, List.mem_append_left _ hy, c⟩
            · exact ⟨x, List.mem_append_right _ (List.mem_singleton.mpr rfl), (conl z).mp (inr_mem h)⟩
          · rintro ⟨y, hy, c⟩
            rcases List.mem_append.mp hy with h | h
            · exact .inl ⟨y, h, c⟩
            · cases List.mem_singleton.mp h
              exact .inr (List.mem_map.mpr ⟨z, (conl z).mpr c, rfl⟩)
        · have sE : Same (ers f (ers k H10)) (ers f (ers k (upd H10 f (.lst (as.map V.ref ++ [.ref y]))))) := fun b o e => by
            obtain ⟨n1, e2⟩ := ers_some e
            obtain ⟨n2, e2⟩ := ers_some e2
            rw [ers_ne n1, ers_ne n2, upd_ne n1]
            exact e2
          rw [rts, if_neg hkn, List.map_append]
          exact (L2.Paired.mapP pr7 fun _ _ h => h.s (sAll.trans sE)).snoc (hSh2.s sE)
    · rintro σ H3 ⟨y3, y4, y5, y6, y7, y8, y9, kvs, as, rfl, s3, ef3, ek3, lk, mem, pr⟩
      have s3' : Same H H3 := (s3.trans (ers_same _ _)).trans (ers_same _ _)
      rw [List.take_length] at pr
      refine ⟨.ref f, rfl, q H3 f as s3' hf ef3 (L2.Paired.mapP pr fun _ _ h => h.s fun b o e => ?_)⟩
      obtain ⟨n1, e⟩ := ers_some e
      exact (ers_ne n1).trans (ers_some e).2
end
end U

set_option linter.all false
set_option maxRecDepth 100000
set_option maxHeartbeats 8000000
/-! Walks, twelfth part: pairs, repr. -/
namespace U
open PySem PySem.Spec PyProof.Rows L2 UR
/-- the ordered pairs of a row -/
def pairsR (r : List Str) : Ln := r.flatMap fun x => (r.filter fun y => !decide (x = y)).map fun y => (x, y)
theorem pairsR_len (r : List Str) : (pairsR r).length ≤ r.length * r.length := by
  unfold pairsR
  have : ∀ l : List Str, (l.flatMap fun x => (r.filter fun y => !decide (x = y)).map fun y => (x, y)).length ≤ l.length * r.length := by
    intro l
    induction l with
    | nil => exact Nat.zero_le _
    | cons x l ih =>
      rw [List.flatMap_cons, List.length_append, List.length_map, List.length_cons, Nat.succ_mul]
      have := List.length_filter_le (fun y => !decide (x = y)) r
      omega
  exact this r
theorem pairs_bound : ∀ {lv : Lv}, (∀ r ∈ lv, r.length ≤ 18) → (lv.flatMap pairsR).length ≤ lv.length * 324
  | [], _ => Nat.zero_le _
  | r :: lv, h => by
    have h1 := pairs_bound (lv := lv) fun r m => h r (List.mem_cons_of_mem _ m)
    have h2 := h r List.mem_cons_self
    have h3 := pairsR_len r
    have h4 : r.length * r.length ≤ 18 * 18 := Nat.mul_le_mul h2 h2
    rw [List.flatMap_cons, List.length_append, List.length_cons, Nat.succ_mul]
    omega
/-! ### the written form -/
def shownS (S : Sh) : Str := ((((Str.empty ++ ("Sheet(" : Str)) ++ (encLv S.lv).shown) ++ (", " : Str)) ++ (encLn S.ln).shown) ++ (")" : Str)
theorem listText_len (ts : List Str) : (listText ts).length ≤ piled ts + 2 := by
  cases ts with
  | nil => decide +kernel
  | cons t r =>
    have hX : (listText (t :: r)).length = (textFrom 0 "[" (t :: r)).length + 1 := by
      show (textFrom 0 "[" (t :: r) ++ "]").length = _
      rw [strLen_append]; rfl
    have hY : (textFrom 0 "[" (t :: r)).length = (textFrom 1 (("[" : Str) ++ (if (0 : Nat) > 0 then ", " else "" : String) ++ t) r).length := rfl
    have h := textFrom_length_pos r 1 (("[" : Str) ++ (if (0 : Nat) > 0 then ", " else "" : String) ++ t) (Nat.succ_pos 0)
    have e : ((("[" : Str) ++ (if (0 : Nat) > 0 then ", " else "" : String) ++ t)).length = 1 + t.length := by
      rw [strLen_append, strLen_append]; rfl
    rw [hX, hY, h, e, piled_cons]
    omega
theorem piled_le {α : Type} {f : α → Str} {n : Nat} : ∀ {l : List α}, (∀ a ∈ l, (f a).length ≤ n) → piled (l.map f) ≤ l.length * (n + 2)
  | [], _ => Nat.zero_le _
  | a :: l, h => by
    have h1 := piled_le (l := l) fun b m => h b (List.mem_cons_of_mem _ m)
    have h2 := h a List.mem_cons_self
    rw [List.map_cons, piled_cons, List.length_cons, Nat.succ_mul]
    omega
theorem shownAll_map {α : Type} {enc : α → PyData} : ∀ l : List α, PyData.shownAll (l.map enc) = l.map fun a => (enc a).shown
  | [] => by simp [PyData.shownAll]
  | a :: l => by simp [PyData.shownAll, shownAll_map l]
theorem name_len {x : Str} (h : nameOk x = true) : (reprText x).length ≤ 62 := by
  have h0 := h
  unfold nameOk at h
  rw [Bool.and_eq_true, decide_eq_true_eq] at h
  have := StrLaws.reprText_len x fun c hc => by
    have := List.all_eq_true.mp h.2 c hc
    unfold sgn at this
    rw [Bool.or_eq_true, decide_eq_true_eq, decide_eq_true_eq] at this
    have : (16 : Nat) ^ 8 = 4294967296 := by decide
    omega
  omega
theorem row_len {l : List Str} (h : NmS l) (w : l.length ≤ 18) : (encS l).shown.length ≤ 1154 := by
  unfold encS
  simp only [PyData.shown]
  rw [shownAll_map]
  have h1 := listText_len (l.map fun a => (PyData.str a).shown)
  have h2 := piled_le (l := l) (f := fun a => (PyData.str a).shown) (n := 62) fun a m => by
    simp only [PyData.shown]
    exact name_len (h a m)
  omega
theorem lv_len {lv : Lv} (h : NmLv lv) (t : lv.length ≤ 12) (w : ∀ r ∈ lv, r.length ≤ 18) : (encLv lv).shown.length ≤ 13874 := by
  unfold encLv
  simp only [PyData.shown]
  rw [shownAll_map]
  have h1 := listText_len (lv.map fun a => (encS a).shown)
  have h2 := piled_le (l := lv) (f := fun a => (encS a).shown) (n := 1154) fun a m => row_len (h a m) (w a m)
  omega
theorem pair_len {p : Str × Str} (h : NmP p) : (encP p).shown.length ≤ 130 := by
  unfold encP
  simp only [PyData.shown, PyData.shownAll]
  have h1 := fmt_text [reprText p.1, reprText p.2]
  have h2 := name_len h.1
  have h3 := name_len h.2
  rw [piled_cons, piled_cons, piled_nil] at h1
  omega
theorem ln_len {ln : Ln} (h : NmLn ln) (t : ln.length ≤ 200) : (encLn ln).shown.length ≤ 26402 := by
  unfold encLn
  simp only [PyData.shown]
  rw [shownAll_map]
  have h1 := listText_len (ln.map fun a => (encP a).shown)
  have h2 := piled_le (l := ln) (f := fun a => (encP a).shown) (n := 130) fun a m => pair_len (h a m)
  omega
theorem shown_len {S : Sh} (v : Valid S.lv S.ln) : (shownS S).length ≤ 40300 := by
  unfold shownS
  have h1 := lv_len v.nmLv v.tall v.wide
  have h2 := ln_len v.nmLn v.few
  rw [strLen_append, strLen_append, strLen_append, strLen_append, strLen_append]
  have e1 : (Str.empty).length = 0 := rfl
  have e2 : (("Sheet(" : Str)).length = 6 := rfl
  have e3 : ((", " : Str)).length = 2 := rfl
  have e4 : ((")" : Str)).length = 1 := rfl
  omega
theorem show_S (l : List Str) : (encS l).showable = true ∧ (encS l).hasDict = false := by
  unfold encS
  simp only [PyData.showable, PyData.hasDict]
  exact ⟨showAll (fun x => by simp [PyData.showable]) l, nodAll (fun x => by simp [PyData.hasDict]) l⟩
theorem show_P (p : Str × Str) : (encP p).showable = true ∧ (encP p).hasDict = false := by
  unfold encP
  simp [PyData.showable, PyData.showableAll, PyData.hasDict, PyData.hasDictAll]
theorem show_Lv (l : Lv) : (encLv l).showable = true ∧ (encLv l).hasDict = false := by
  unfold encLv
  simp only [PyData.showable, PyData.hasDict]
  exact ⟨showAll (fun x => (show_S x).1) l, nodAll (fun x => (show_S x).2) l⟩
theorem show_Ln (l : Ln) : (encLn l).showable = true ∧ (encLn l).hasDict = false := by
  unfold encLn
  simp only [PyData.showable, PyData.hasDict]
  exact ⟨showAll (fun x => (show_P x).1) l, nodAll (fun x => (show_P x).2) l⟩
section
variable {P : Program} {w : World} {K : PySem.W.Frag} {mg : Str → Option Value} {base : Heap} (T : TX K mg)
include T
def sp_S_pairs (K : PySem.W.Frag) : Sp := fun vs H Q _ => ∃ (a : Addr) (S : Sh), vs = [.ref a] ∧ SheetAt K H a S ∧ S.lv.length ≤ 12 ∧ (∀ r ∈ S.lv, r.length ≤ 18) ∧ ∀ H' p ys, Same H H' → H' p = some (.lst ys) → ys.length = (S.lv.flatMap pairsR).length → Q (.ref p) H'
theorem f_S_pairs : Fn P w K mg base 1 (mA K "pairs") (sp_S_pairs K) [] := by
  obtain ⟨fd, F⟩ := dd_S_pairs T
  have nd := sc_S_pairs.nd
  refine fnD F (F.bindsN fun _ _ _ _ _ _ us hl => match us, hl with | [_], _ => rfl) sc_S_pairs (fun vs H Q E h => ?_) (fun cdv A outer s H vs Q E hr h => ?_)
  · obtain ⟨a, S, rfl, _⟩ := h; rfl
  · obtain ⟨a, S, rfl, ⟨dx, A, B, D, E, F, G, kf, kg, ex, ⟨ps, ep, eA, hps⟩, _⟩, tall, wide, q⟩ := h
    refine ⟨_, PSs.nox ((pss_cons (ps_asg (pe_lst pa_nil) (pg_name (i := 1) nd rfl (by first | exact Or.inl rfl | exact Or.inr rfl)))
  (pss_cons (ps_for PassesOwn.never rfl (k_ilist (K := K) rfl (k_fld (K := K) rfl (pv 0))) (pg_name (i := 2) nd rfl (by first | exact Or.inl rfl | exact Or.inr rfl))
  (pss_one (ps_expr (k_bm (K := K) rfl PySem.F.plainAttrs_list PySem.F.slot_list_extend PySem.F.type_list_extend mt_extend (pv 1) (pa_cons (pe_lc2 (own := [("one", 3), ("other", 4)]) (vs1 := [4]) (g := gName 3) (g1 := gName 4) (tt := tYes) rfl nd (k_ilist (K := K) rfl (pv 2)) (blkOk_by (by rfl)) (by decide) (fun _ _ _ _ _ => (pg_name (i := 3) nd rfl (by first | exact Or.inl rfl | exact Or.inr rfl))) (fun _ _ _ _ _ => pts_nil) (fun _ _ _ _ _ => (k_ilist (K := K) rfl (pv 2))) (fun _ _ _ _ _ => (pg_name (i := 4) nd rfl (by first | exact Or.inl rfl | exact Or.inr rfl))) (fun _ _ _ _ _ => (pts_one (pt_cmpR op_ne (pv 3) (pv 4) (nomark _)))) (fun _ _ _ _ _ => (pe_tup (pa_cons (pv 3) (pa_cons (pv 4) pa_nil))))) pa_nil)))))
  (pss_one (ps_ret (pe_callB (k_sortL (K := K) rfl hr.units) rfl (b_sorted T) (by decide +kernel) (pa_cons (pv 1) pa_nil))))))), ?_⟩
    have bnd := pairs_bound wide
    rw [ep] at bnd tall
    rw [List.length_map] at bnd tall
    refine ⟨Nat.zero_le _, fun f hf => ?_⟩
    have s1 : Same H (ers f (upd H f (.lst []))) := by rw [ers_upd, ers_free hf]; exact .refl _
    have ef : (upd H f (.lst [])) f = some (.lst []) := upd_same
    generalize upd H f (.lst []) = H1 at s1 ef ⊢
    have s1' := s1.trans (ers_same _ _)
    refine ⟨.ref a, rfl, a, _, _, _, _, rfl, s1' _ _ ex, cls T, na_own_levels T, rfl, A, rfl, ⟨_, sqR (s1' _ _ eA)⟩, ?_⟩
    refine forG (wk_list (K := K) (f := fun p : Addr × List Str => V.ref p.1) (sqR eA) (good_ref _ _)) (fun i σ H' => ∃ (y2 y3 y4 : Option V) (qs : List (Addr × Str × Str)), σ = [some (.ref a), some (.ref f), y2, y3, y4] ∧ Same H (ers f H') ∧ LTp H' f qs ∧ qs.map (·.2) = (ps.take i).flatMap fun z => pairsR z.2)
      ⟨none, none, none, [], rfl, s1, ⟨ef, fun z hz => nomatch hz⟩, rfl⟩ (fun i σ H' ⟨_, _, _, _, _, s, _⟩ => (s.trans (ers_same _ _)).g) ?_ ?_
    · rintro i z v σ H2 H3 ez ⟨y2, y3, y4, qs, rfl, s2, hq2, eqs⟩ sm rfl
      have mz : z ∈ ps := List.mem_of_getElem? ez
      have s3 : Same H (ers f H3) := s2.trans (sm.ers f)
      have s3' := s3.trans (ers_same _ _)
      have hz : LS H3 z.1 z.2 := (hps z mz).s s3'
      have wd := wide z.2 (by rw [ep]; exact List.mem_map.mpr ⟨z, mz, rfl⟩)
      have hq3 : LTp H3 f qs := hq2.s sm
      have qlen : qs.length + (pairsR z.2).length ≤ 3888 := by
        have h1 := congrArg List.length eqs
        rw [List.length_map] at h1
        have h2 := pflat_len (f := fun z : Addr × List Str => pairsR z.2) ez
        have h3 : (ps.flatMap fun z => pairsR z.2).length = ((ps.map (·.2)).flatMap pairsR).length := by rw [List.flatMap_map]
        omega
      refine ⟨.ref f, rfl, .inl ⟨rfl, _, sqR hq3.1⟩, .ref z.1, rfl, z.1, rfl, ⟨_, hz.sq⟩, fun M hM => ?_⟩
      refine lc2G (bs := z.2) (R := fun d y G => ∃ t, y = V.ref t ∧ TP G t d) (wk_list (K := K) (f := V.str) hz.sq (good_str _)) hM (fun x => (z.2.filter fun y => !decide (x = y)).map fun y => (x, y)) (sz64' (Nat.le_trans (pairsR_len z.2) (Nat.le_trans (Nat.mul_le_mul wd wd) (by decide)))) (fun x hx v pre ys H' Nx sN eacc pacc hn e _ fin => ?_) (fun d y G G' g ⟨t, e, h⟩ => ⟨t, e, h.s g⟩) (fun H4 ys s4 e4 pp => ?_)
      · subst e
        refine ⟨rfl, tyes (iteT ⟨.ref z.1, rfl, z.1, rfl, ⟨_, (hz.s (sN.trans (ers_same _ _))).sq⟩, ?_⟩)⟩
        refine lc2In (R := fun d y G => ∃ t, y = V.ref t ∧ TP G t d) (pre := pre) (cs := z.2) (mkd := fun y => (x, y)) (keep := fun y => !decide (x = y)) (wk_list (f := V.str) hz.sq (good_str _)) hM sN eacc pacc hn (fun d y G G' g ⟨t, e, h⟩ => ⟨t, e, h.s g⟩) (fun y hy v H' Nx1 sN1 ⟨acc, eacc1⟩ e _ yes no => ?_) fin
        subst e
        refine ⟨rfl, .str x, rfl, .str y, rfl, rfl, _, rfl, ?_⟩
        have hd : (!decide (V.str x = V.str y)) = !decide (x = y) := by simp
        rw [hd]
        by_cases m : x = y
        · rw [decide_eq_true m]
          exact iteF (no _ (by rw [decide_eq_true m]; rfl) (.refl _))
        · rw [decide_eq_false m]
          refine iteT ⟨.str x, rfl, .str y, rfl, by show 2 ≤ sizeLine; decide, fun t ht => ?_⟩
          have nt : t ≠ M := fun e => by rw [e, eacc1] at ht; cases ht
          exact yes _ _ (by rw [decide_eq_false m]; rfl) (same_new ht) ⟨t, rfl, (ers_ne nt).trans upd_same⟩
      · have s4' : Same H3 H4 := s4.trans (ers_same _ _)
        obtain ⟨ms, em, hm⟩ := LT.made (gg := id) (L2.Paired.mapP pp fun d y ⟨t, e, h⟩ => ⟨t, e, h.s (ers_same _ _)⟩) e4
        rw [List.map_id] at em
        have hq4 := hq3.s s4'
        have nfM : f ≠ M := fun e => by rw [← e, hq3.1] at hM; cases hM
        have mlen : ms.length = (pairsR z.2).length := by
          have := congrArg List.length em
          rw [List.length_map] at this
          exact this.symm
        refine ⟨f, M, _, _, rfl, rfl, hq4.1, hm.1, sz64 (by rw [List.length_map, List.length_map]; omega), _, _, _, qs ++ ms, rfl, ?_, ⟨by rw [upd_same, List.map_append], fun y hy => ?_⟩, ?_⟩
        · rw [ers_upd]
          exact s3.trans (s4'.ers f)
        · have ty : TP H4 y.1 y.2 := by
            rcases List.mem_append.mp hy with h | h
            · exact hq4.2 y h
            · exact hm.2 y h
          exact (upd_ne (ne_of ty hq4.1 (fun z => nomatch z))).trans ty
        · rw [pflat ez, List.map_append, eqs, ← em]
          rfl
    · rintro σ H2 ⟨y2, y3, y4, qs, rfl, s2, hq2, eqs⟩
      refine ⟨.ref f, rfl, f, qs, rfl, sqR hq2.1, fun z hz => (hq2.2 z hz).sq, fun p hp => ?_⟩
      refine q _ p _ ((s2.trans (ers_same _ _)).trans (same_new hp)) upd_same ?_
      rw [List.length_map, List.length_mergeSort]
      have h1 := congrArg List.length eqs
      rw [List.length_map, List.take_length] at h1
      rw [h1, ep, List.flatMap_map]
def sp_S_repr (K : PySem.W.Frag) : SpG := fun g vs H Q _ => ∃ (a : Addr) (S : Sh), vs = [.ref a] ∧ SheetAt K H a S ∧ Valid S.lv S.ln ∧ GOk H g ∧ Q (.str (shownS S)) H
theorem f_S_repr : FnG P w K mg base 1 (mA K "__repr__") (sp_S_repr K) := by
  obtain ⟨fd, F⟩ := dd_S_repr T
  have nd := sc_S_repr.nd
  refine fnG F (F.bindsN fun _ _ _ _ _ _ us hl => match us, hl with | [_], _ => rfl) sc_S_repr (fun g vs H Q E h => ?_) (fun cdv A g outer s H vs Q E hg hr h => ?_)
  · obtain ⟨a, S, rfl, _⟩ := h; rfl
  · obtain ⟨a, S, rfl, ⟨dx, A, B, D, E, F, G, kf, kg, ex, hA, _, _, hE, _⟩, va, gok, q⟩ := h
    refine ⟨_, PSs.nox ((pss_one (ps_ret (pe_joined (PJ.cons pe_str (PJ.cons (k_fmtD (K := K) rfl hr.units hg (k_fld (K := K) rfl (pv 0))) (PJ.cons pe_str (PJ.cons (k_fmtD (K := K) rfl hr.units hg (k_fld (K := K) rfl (pv 0))) (PJ.cons pe_str PJ.nil))))))))), ?_⟩
    have h1 := lv_len va.nmLv va.tall va.wide
    have h2 := ln_len va.nmLn va.few
    have ht := shown_len va
    unfold shownS at ht q
    have z : ∀ {x y : Str}, (x ++ y).length ≤ 40300 → x.length ≤ 40300 := fun {x y} h => by rw [strLen_append] at h; omega
    have bg : ∀ {n : Nat}, n ≤ 40300 → n ≤ sizeLine := fun h => sz64 (by omega)
    refine ⟨_, rfl, bg (z (z (z (z ht)))), ?_⟩
    refine ⟨.ref a, rfl, a, _, _, _, _, rfl, ex, cls T, na_own_levels T, rfl, S.lv.map encS, LL.dp hA, (show_Lv S.lv).1, (show_Lv S.lv).2, Nat.le_trans (dep_Lv S.lv) (by decide), bg (Nat.le_trans h1 (by decide)), gok, _, rfl, bg (z (z (z ht))), ?_⟩
    refine ⟨_, rfl, bg (z (z ht)), ?_⟩
    refine ⟨.ref a, rfl, a, _, _, _, _, rfl, ex, cls T, na_own_lines T, rfl, S.ln.map encP, LT.dp hE, (show_Ln S.ln).1, (show_Ln S.ln).2, Nat.le_trans (dep_Ln S.ln) (by decide), bg (Nat.le_trans h2 (by decide)), gok, _, rfl, bg (z ht), ?_⟩
    exact ⟨_, rfl, bg ht, q⟩
end
end U

set_option linter.all false
set_option maxRecDepth 100000
set_option maxHeartbeats 8000000
/-! The law's walks, first part: the pot. -/
namespace U
open PySem PySem.Spec PyProof.Rows L2 UR
def PotAt (H : Hp) (p : Addr) : Prop := ∃ a b : Int, H p = some (.lst [.int a, .int b]) ∧ 0 ≤ a ∧ 0 ≤ b ∧ b < 4294967296
theorem PotAt.s {H H' : Hp} {p : Addr} (h : PotAt H p) (s : Same H H') : PotAt H' p := let ⟨a, b, e, r⟩ := h; ⟨a, b, s _ _ e, r⟩
theorem Off.g {H H' : Hp} {p : Addr} (h : PotAt H p) (o : Off p H H') : SameG H H' := fun b u g e => by
  by_cases n : b = p
  · subst n
    obtain ⟨x, y, e2, _⟩ := h
    rw [e] at e2
    cases e2
    exact (g x List.mem_cons_self).elim
  · exact o b u n e
/-- behind a draw: what the pot is not stays -/
theorem off_free {H H' : Hp} {p b : Addr} (o : Off p H H') (h : H' b = none) (n : b ≠ p) : H b = none := by
  rcases e : H b with _ | u
  · rfl
  · rw [o b u n e] at h; cases h
theorem off_ers {H H' : Hp} {p l : Addr} (h : Off p H H') : Off p (ers l H) (ers l H') := fun b o n e => by
  obtain ⟨m, e⟩ := ers_some e
  rw [ers_ne m]; exact h _ _ n e
theorem off_ers0 {H H' : Hp} {p l : Addr} (h : Off p H H') (n : H l = none) : Off p H (ers l H') := fun b o m e => by
  rw [ers_ne (ne_of_none e n)]; exact h _ _ m e
theorem perm_erase {α : Type} : ∀ (l : List α) (n : Nat) (h : n < l.length), (l[n] :: l.eraseIdx n).Perm l
  | [], _, h => by simp at h
  | _ :: _, 0, _ => .refl _
  | a :: l, n + 1, h => by
    show (l[n]'(by simpa using h) :: a :: l.eraseIdx n).Perm (a :: l)
    exact (List.Perm.swap _ _ _).trans ((perm_erase l n (by simpa using h)).cons a)
theorem seq_ix {i : Int} {n : Nat} (h0 : 0 ≤ i) (h : i < n) : seqIndex? i n = some i.toNat := by
  unfold seqIndex?
  have e : (if i < 0 then i + (n : Int) else i) = i := if_neg (by omega)
  simp only [e]
  have : (decide (0 ≤ i) && decide (i < n)) = true := by
    rw [Bool.and_eq_true, decide_eq_true_eq, decide_eq_true_eq]
    exact ⟨h0, h⟩
  rw [if_pos this]
section
variable {P : Program} {w : World} {K : PySem.W.Frag} {mg : Str → Option Value} {base : Heap} (T : TX K mg)
include T
def sp_law_pot (K : PySem.W.Frag) : Sp := fun vs H Q _ => ∃ (a : Addr) (ns : List Int) (k : Nat), vs = [.ref a, .int k] ∧ SqL K H a (ns.map V.int) ∧ k ≤ 1000 ∧ ∀ H' p, Same H H' → H p = none → PotAt H' p → Q (.ref p) H'
theorem f_law_pot : Fn P w K mg base 6 (fA K "_law_pot") (sp_law_pot K) [] := by
  obtain ⟨fd, F⟩ := dd_law_pot T
  have nd := sc_law_pot.nd
  refine fnD F (F.bindsN fun _ _ _ _ _ _ us hl => match us, hl with | [_, _], _ => rfl) sc_law_pot (fun vs H Q E h => ?_) (fun cdv A outer s H vs Q E hr h => ?_)
  · obtain ⟨a, ns, k, rfl, _⟩ := h; rfl
  · obtain ⟨a, ns, k, rfl, hs, hk, q⟩ := h
    refine ⟨_, PSs.nox ((pss_cons (ps_asg (pe_op op_add (pe_op op_mul pe_int (pv 1)) pe_int) (pg_name (i := 2) nd rfl (by first | exact Or.inl rfl | exact Or.inr rfl)))
  (pss_cons (ps_if (pt_cmpR op_lt (pv 1) (pe_callB (k_len (K := K) rfl) rfl (b_len T) PySem.boot_len (pa_cons (pv 0) pa_nil)) (nomark _))
  (pss_one (ps_asg (pe_callB call_abs rfl (b_abs T) (by decide +kernel) (pa_cons (pe_ix (k_ixl (K := K) rfl) (pv 0) (pv 1) (fun _ _ => rfl)) pa_nil)) (pg_name (i := 2) nd rfl (by first | exact Or.inl rfl | exact Or.inr rfl))))
  pss_nil)
  (pss_one (ps_ret (pe_lst (pa_cons (pe_callB (call_max2 rfl) rfl (b_max T) (by decide +kernel) (pa_cons pe_int (pa_cons (pe_op op_sub (pv 2) (pe_op op_pow pe_int pe_int)) pa_nil))) (pa_cons (pe_op op_add (pe_op op_mod (pe_op op_mul (pe_callTy call_int1 rfl (b_int T) (by decide +kernel) (pa_cons (pe_op op_add (pe_op op_mod (pe_callTy call_int1 rfl (b_int T) (by decide +kernel) (pa_cons (pv 2) pa_nil)) pe_int) pe_int) pa_nil)) (pe_op op_pow (pe_op op_add (pe_op op_mul pe_int (pv 1)) pe_int) pe_int)) pe_int) pe_int) pa_nil)))))))), ?_⟩
    refine ⟨.int k, rfl, 23, k, rfl, rfl, .inl ⟨by decide, by decide⟩, _, _, rfl, rfl, ?_⟩
    have fin : ∀ t : Int, (tRet (tLst (tCons (tCB (fun xs H Q => ∃ i j, xs = [V.int i, .int j] ∧ Q (.int (if j > i then j else i)) H) (tCons (tC (.int 0)) (tCons (tOp (rI0 fun i j => .int (i - j)) (tVar 2) (tOp (rI CPow fun i j => .int (i ^ j.toNat)) (tC (.int 10)) (tC (.int 18)))) tNil)))
        (tCons (tOp (rI0 fun i j => .int (i + j)) (tOp (rI (fun _ j => 0 < j) fun i j => .int (i % j)) (tOp (rI CMul fun i j => .int (i * j)) (tCB (fun xs H Q => (∃ i, xs = [V.int i] ∧ Q (.int i) H) ∨ ∃ k, xs = [.bl k] ∧ Q (.int (if k then 1 else 0)) H) (tCons (tOp (rI0 fun i j => .int (i + j)) (tOp (rI (fun _ j => 0 < j) fun i j => .int (i % j)) (tCB (fun xs H Q => (∃ i, xs = [V.int i] ∧ Q (.int i) H) ∨ ∃ k, xs = [.bl k] ∧ Q (.int (if k then 1 else 0)) H) (tCons (tVar 2) tNil)) (tC (.int 2147483497))) (tC (.int 31))) tNil))
          (tOp (rI CPow fun i j => .int (i ^ j.toNat)) (tOp (rI0 fun i j => .int (i + j)) (tOp (rI CMul fun i j => .int (i * j)) (tC (.int 2)) (tVar 1)) (tC (.int 5))) (tC (.int 3)))) (tC (.int 2147483543))) (tC (.int 1))) tNil)))) { nx := fun _ H' => Q .non H', rt := Q } [some (.ref a), some (.int k), some (.int t)] H := fun t => by
      refine ⟨.int t, rfl, 10, 18, rfl, rfl, ⟨by decide, by decide, by decide⟩, t, _, rfl, rfl, 0, _, rfl, ?_⟩
      refine ⟨.int t, rfl, .inl ⟨t, rfl, t, 2147483497, rfl, rfl, (by show (0:Int) < 2147483497; decide), _, 31, rfl, rfl, .inl ⟨_, rfl, ?_⟩⟩⟩
      refine ⟨.int k, rfl, 2, k, rfl, rfl, .inl ⟨by decide, by decide⟩, _, 5, rfl, rfl, _, 3, rfl, rfl, ⟨by decide, by decide, by omega⟩, ?_⟩
      have m1 := Int.emod_nonneg t (show (2147483497 : Int) ≠ 0 by decide)
      have m2 := Int.emod_lt_of_pos t (show (0 : Int) < 2147483497 by decide)
      refine ⟨_, _, rfl, rfl, .inl ⟨by omega, by omega⟩, _, 2147483543, rfl, rfl, (by show (0:Int) < 2147483543; decide), _, 1, rfl, rfl, by show 2 ≤ sizeLine; decide, fun p hp => ?_⟩
      generalize hz : (t % 2147483497 + 31) * (2 * (k : Int) + 5) ^ (3 : Int).toNat = z
      have z1 := Int.emod_nonneg z (show (2147483543 : Int) ≠ 0 by decide)
      have z2 := Int.emod_lt_of_pos z (show (0 : Int) < 2147483543 by decide)
      refine q _ p (same_new hp) hp ⟨_, _, upd_same, ?_, ?_, ?_⟩
      · split <;> omega
      · omega
      · omega
    refine ⟨.int k, rfl, .ref a, rfl, a, _, rfl, .inl hs, _, _, rfl, rfl, _, rfl, ite2 (fun h => ?_) (fun h => ?_)⟩
    · have hl : k < ns.length := by
        have := of_decide_eq_true h
        rw [List.length_map] at this
        omega
      refine ⟨.ref a, rfl, .int k, rfl, a, _, k, .int ns[k], rfl, rfl, hs, atI_nat (by rw [List.getElem?_map, List.getElem?_eq_getElem hl]; rfl), _, rfl, ?_⟩
      exact fin _
    · exact fin _
def sp_law_draw : Sp := fun vs H Q _ => ∃ (p : Addr) (j : Int), vs = [.ref p, .int j] ∧ PotAt H p ∧ 0 < j ∧ j < 1073741824 ∧ ∀ H' d, Off p H H' → PotAt H' p → 0 ≤ d → d < j → Q (.int d) H'
theorem f_law_draw : Fn P w K mg base 1 (fA K "_law_draw") sp_law_draw [] := by
  obtain ⟨fd, F⟩ := dd_law_draw T
  have nd := sc_law_draw.nd
  refine fnD F (F.bindsN fun _ _ _ _ _ _ us hl => match us, hl with | [_, _], _ => rfl) sc_law_draw (fun vs H Q E h => ?_) (fun cdv A outer s H vs Q E hr h => ?_)
  · obtain ⟨p, j, rfl, _⟩ := h; rfl
  · obtain ⟨p, j, rfl, ⟨x, y, e, hx, hy, hy2⟩, j0, j1, q⟩ := h
    refine ⟨_, PSs.nox ((pss_cons (ps_if (pt_cmpR op_gt (pe_ix (k_ixl (K := K) rfl) (pv 0) pe_int (fun _ _ => rfl)) pe_int (nomark _))
  (pss_cons (ps_asg (pe_callB call_divmod rfl (b_divmod T) (by decide +kernel) (pa_cons (pe_ix (k_ixl (K := K) rfl) (pv 0) pe_int (fun _ _ => rfl)) (pa_cons (pv 1) pa_nil))) (k_gtup (K := K) (n := 2) rfl rfl (pgs_cons (pg_sub (pv 0) pe_int set_list) (pgs_cons (pg_name (i := 2) nd rfl (by first | exact Or.inl rfl | exact Or.inr rfl)) pgs_nil))))
  (pss_one (ps_ret (pv 2))))
  pss_nil)
  (pss_cons (ps_asg (pe_op op_mod (pe_callTy call_int1 rfl (b_int T) (by decide +kernel) (pa_cons (pe_op op_add (pe_op op_mul (pe_ix (k_ixl (K := K) rfl) (pv 0) pe_int (fun _ _ => rfl)) pe_int) pe_int) pa_nil)) pe_int) (pg_sub (pv 0) pe_int set_list))
  (pss_one (ps_ret (pe_op op_mod (pe_callTy call_int1 rfl (b_int T) (by decide +kernel) (pa_cons (pe_op op_fdiv (pe_op op_mod (pe_callTy call_int1 rfl (b_int T) (by decide +kernel) (pa_cons (pe_op op_mul (pe_ix (k_ixl (K := K) rfl) (pv 0) pe_int (fun _ _ => rfl)) (pe_ix (k_ixl (K := K) rfl) (pv 0) pe_int (fun _ _ => rfl))) pa_nil)) pe_int) pe_int) pa_nil)) (pv 1))))))), ?_⟩
    refine ⟨.ref p, rfl, p, _, 0, .int x, rfl, rfl, sqR e, atI_nat (j := 0) rfl, _, _, rfl, rfl, _, rfl, ite2 (fun h => ?_) (fun h => ?_)⟩
    · refine ⟨.ref p, rfl, p, _, 0, .int x, rfl, rfl, sqR e, atI_nat (j := 0) rfl, .int j, rfl, x, j, rfl, ⟨j0, j1⟩, fun t ht => ?_⟩
      have s1 := same_new ht (o := .tup [.int (x / j), .int (x % j)])
      refine ⟨t, _, rfl, .inl (.inl upd_same), rfl, _, _, rfl, ?_⟩
      refine ⟨.ref p, rfl, p, _, 0, 0, rfl, rfl, s1 _ _ e, rfl, _, _, rfl, rfl, ?_⟩
      refine ⟨_, rfl, q _ _ ((Off.of s1).trans .put) ⟨x / j, y, upd_same, Int.ediv_nonneg hx (by omega), hy, hy2⟩ (Int.emod_nonneg _ (by omega)) (Int.emod_lt_of_pos _ j0)⟩
    · refine ⟨.ref p, rfl, p, _, 1, .int y, rfl, rfl, sqR e, atI_nat (j := 1) rfl, y, 40009, rfl, rfl, .inr ⟨by decide, by decide⟩, _, 15013, rfl, rfl, .inl ⟨_, rfl, _, 2147483629, rfl, rfl, (by show (0:Int) < 2147483629; decide), ?_⟩⟩
      have z1 : 0 ≤ (y * 40009 + 15013) % 2147483629 := Int.emod_nonneg _ (by decide)
      have z2 : (y * 40009 + 15013) % 2147483629 < 2147483629 := Int.emod_lt_of_pos _ (by decide)
      refine ⟨.ref p, rfl, p, _, 1, 1, rfl, rfl, e, rfl, ?_⟩
      refine ⟨.ref p, rfl, p, _, 1, .int ((y * 40009 + 15013) % 2147483629), rfl, rfl, sqR upd_same, atI_nat (j := 1) rfl, .ref p, rfl, p, _, 1, .int ((y * 40009 + 15013) % 2147483629), rfl, rfl, sqR upd_same, atI_nat (j := 1) rfl, _, _, rfl, rfl, .inl ⟨by omega, by omega⟩, .inl ⟨_, rfl, _, 2147483563, rfl, rfl, (by show (0:Int) < 2147483563; decide), _, 19, rfl, rfl, ⟨by decide, by decide⟩, .inl ⟨_, rfl, .int j, rfl, _, j, rfl, rfl, j0, ?_⟩⟩⟩
      exact q _ _ .put ⟨x, _, upd_same, hx, z1, by omega⟩ (Int.emod_nonneg _ (by omega)) (Int.emod_lt_of_pos _ j0)
def sp_law_pick : Sp := fun vs H Q _ => ∃ (p L : Addr) (xs : List V), vs = [.ref p, .ref L] ∧ PotAt H p ∧ H L = some (.lst xs) ∧ Good (.lst xs) ∧ 0 < xs.length ∧ xs.length ≤ 1000000 ∧ ∀ H' x, Off p H H' → PotAt H' p → x ∈ xs → Q x H'
theorem f_law_pick : Fn P w K mg base 6 (fA K "_law_pick") sp_law_pick [] := by
  obtain ⟨fd, F⟩ := dd_law_pick T
  have nd := sc_law_pick.nd
  refine fnD F (F.bindsN fun _ _ _ _ _ _ us hl => match us, hl with | [_, _], _ => rfl) sc_law_pick (fun vs H Q E h => ?_) (fun cdv A outer s H vs Q E hr h => ?_)
  · obtain ⟨p, L, xs, rfl, _⟩ := h; rfl
  · obtain ⟨p, L, xs, rfl, hp, e, g, x0, x1, q⟩ := h
    refine ⟨_, PSs.nox ((pss_one (ps_ret (pe_ix (k_ixl (K := K) rfl) (pv 1) (pe_f (f_law_draw T) hr (by decide) rfl (g_law_draw T) (kp_law_draw T) (pa_cons (pv 0) (pa_cons (pe_callB (k_len (K := K) rfl) rfl (b_len T) PySem.boot_len (pa_cons (pv 1) pa_nil)) pa_nil))) (fun _ _ => rfl))))), ?_⟩
    refine ⟨.ref L, rfl, .ref p, rfl, .ref L, rfl, L, xs, rfl, .inl (sqR e), p, xs.length, rfl, hp, by omega, by omega, fun H' d o hp' d0 d1 => ?_⟩
    have hl : d.toNat < xs.length := by omega
    refine ⟨L, xs, d, xs[d.toNat], rfl, rfl, sqR (Off.g hp o _ _ g e), ?_, q H' _ o hp' (List.getElem_mem hl)⟩
    exact at_of (Int.toNat_of_nonneg d0).symm (List.getElem?_eq_getElem hl)
def sp_law_some : Sp := fun vs H Q _ => ∃ (p L : Addr) (xs : List V) (n : Nat), vs = [.ref p, .ref L, .int n] ∧ PotAt H p ∧ H L = some (.lst xs) ∧ n ≤ xs.length ∧ xs.length ≤ 1000000 ∧
  ∀ H' q' ys zs, Off p H H' → PotAt H' p → H q' = none → H' q' = some (.lst ys) → ys.length = n → (ys ++ zs).Perm xs → Q (.ref q') H'
theorem f_law_some : Fn P w K mg base 6 (fA K "_law_some") sp_law_some [] := by
  obtain ⟨fd, F⟩ := dd_law_some T
  have nd := sc_law_some.nd
  refine fnD F (F.bindsN fun _ _ _ _ _ _ us hl => match us, hl with | [_, _, _], _ => rfl) sc_law_some (fun vs H Q E h => ?_) (fun cdv A outer s H vs Q E hr h => ?_)
  · obtain ⟨p, L, xs, n, rfl, _⟩ := h; rfl
  · obtain ⟨p, L, xs, n, rfl, hp, e, hn, hx, q⟩ := h
    refine ⟨_, PSs.nox ((pss_cons (ps_par (i := 3) (j := 4) rfl nd rfl rfl (by decide) rfl rfl (pa_cons (pe_callTy (k_list (K := K) rfl) rfl (b_list T) (by decide +kernel) (pa_cons (pv 1) pa_nil)) (pa_cons (pe_lst pa_nil) pa_nil)) (by rfl))
  (pss_cons (ps_for PassesOwn.never rfl (pi_range1 rfl (b_range T) (pa_cons (pv 2) pa_nil)) (pg_name (i := 5) nd rfl (by first | exact Or.inl rfl | exact Or.inr rfl))
  (pss_one (ps_expr (k_bm (K := K) rfl PySem.F.plainAttrs_list PySem.F.slot_list_append PySem.F.type_list_append mt_append (pv 4) (pa_cons (k_bm (K := K) rfl PySem.F.plainAttrs_list PySem.F.slot_list_pop PySem.F.type_list_pop mt_popAt (pv 3) (pa_cons (pe_f (f_law_draw T) hr (by decide) rfl (g_law_draw T) (kp_law_draw T) (pa_cons (pv 0) (pa_cons (pe_callB (k_len (K := K) rfl) rfl (b_len T) PySem.boot_len (pa_cons (pv 3) pa_nil)) pa_nil))) pa_nil)) pa_nil)))))
  (pss_one (ps_ret (pv 4)))))), ?_⟩
    refine ⟨.ref L, rfl, L, xs, rfl, .inl (sqR e), fun r hrr => ⟨Nat.zero_le _, fun f hf => ⟨_, _, rfl, ?_⟩⟩⟩
    have s1 := same_new hrr (o := .lst xs)
    have s2 := same_new hf (o := .lst [])
    have er : (upd (upd H r (.lst xs)) f (.lst [])) r = some (.lst xs) := s2 _ _ upd_same
    have ef : (upd (upd H r (.lst xs)) f (.lst [])) f = some (.lst []) := upd_same
    have nrf : r ≠ f := ne_of_none upd_same hf
    have hfH : H f = none := s1.free hf
    have g0 : Off p H (ers r (ers f (upd (upd H r (.lst xs)) f (.lst [])))) := Off.of ((s1.trans s2).ers0 hfH |>.ers0 hrr)
    have hp0 := (hp.s s1).s s2
    generalize upd (upd H r (.lst xs)) f (.lst []) = H0 at er ef g0 hp0 ⊢
    obtain ⟨pa, pb, epH, _⟩ := id hp
    have nrp : r ≠ p := fun z => by rw [z, epH] at hrr; cases hrr
    have nfp : f ≠ p := fun z => by rw [z, epH] at hfH; cases hfH
    refine ⟨.int n, rfl, n, rfl, by omega, by omega, ?_⟩
    refine forG (Hb := fun _ => none) (bs := List.range n) (wk_range 0 n) (fun i σ H' => ∃ (y5 : Option V) (rest ys : List V), σ = [some (.ref p), some (.ref L), some (.int n), some (.ref r), some (.ref f), y5] ∧ Off p H (ers r (ers f H')) ∧ PotAt H' p ∧ H' r = some (.lst rest) ∧ H' f = some (.lst ys) ∧ ys.length = i ∧ (ys ++ rest).Perm xs)
      ⟨none, xs, [], rfl, g0, hp0, er, ef, rfl, .refl _⟩ (fun _ _ _ _ => fun b o _ z => nomatch (show (none : Option HO) = some o from z)) ?_ ?_
    · rintro i b v σ H1 H2 eb ⟨y5, rest, ys, rfl, g1, hp1, er1, ef1, ly, pm⟩ sm rfl
      have hb : i < n := by
        have := (List.getElem?_eq_some_iff.mp eb).1
        rwa [List.length_range] at this
      have g2 : Off p H (ers r (ers f H2)) := g1.trans (Off.of ((sm.ers f).ers r))
      have hp2 := hp1.s sm
      have er2 := sm _ _ er1
      have ef2 := sm _ _ ef1
      have lpm := pm.length_eq
      rw [List.length_append] at lpm
      refine ⟨.ref f, rfl, .inl ⟨rfl, _, sqR ef2⟩, .ref r, rfl, .inl ⟨rfl, _, sqR er2⟩, .ref p, rfl, .ref r, rfl, r, rest, rfl, .inl (sqR er2), p, rest.length, rfl, hp2, by omega, by omega, fun H3 d o hp3 d0 d1 => ?_⟩
      have er3 := o _ _ nrp er2
      have ef3 := o _ _ nfp ef2
      have hl : d.toNat < rest.length := by omega
      refine ⟨r, rest, d, d.toNat, rest[d.toNat], rfl, rfl, er3, by omega, by omega, seq_ix d0 d1, List.getElem?_eq_getElem hl, ?_⟩
      have ef4 : (upd H3 r (.lst (rest.eraseIdx d.toNat))) f = some (.lst ys) := (upd_ne nrf.symm).trans ef3
      refine ⟨f, ys, _, rfl, rfl, ef4, sz64' (by omega), _, rest.eraseIdx d.toNat, ys ++ [rest[d.toNat]], rfl, ?_, ?_, ?_, upd_same, by rw [List.length_append, ly]; rfl, ?_⟩
      · intro b o' gg z
        obtain ⟨n1, z1⟩ := ers_some (g2 b o' gg z)
        obtain ⟨n2, z2⟩ := ers_some z1
        rw [ers_ne n1, ers_ne n2, upd_ne n2, upd_ne n1]
        exact o _ _ gg z2
      · obtain ⟨x, y, e3, r3⟩ := hp3
        exact ⟨x, y, by rw [upd_ne nfp.symm, upd_ne nrp.symm]; exact e3, r3⟩
      · exact (upd_ne nrf).trans upd_same
      · refine List.Perm.trans ?_ pm
        rw [List.append_assoc]
        refine List.Perm.append_left ys ?_
        rw [List.singleton_append]
        exact perm_erase rest _ hl
    · rintro σ H1 ⟨y5, rest, ys, rfl, g1, hp1, er1, ef1, ly, pm⟩
      rw [List.length_range] at ly
      exact ⟨.ref f, rfl, q H1 f ys rest ((g1.trans (Off.of (ers_same _ _))).trans (Off.of (ers_same _ _))) hp1 hfH ef1 ly pm⟩
end
end U

set_option linter.all false
set_option maxRecDepth 100000
set_option maxHeartbeats 8000000
/-! The law's walks, second part: names, lines, sheets of plans. -/
namespace U
open PySem PySem.Spec PyProof.Rows L2 UR
def poolA : List Str := ["a", "b", "c", "0", "1", "10", "2", "zzzzzz", "999999", "x9", "level", "line", "a1", "ab", "aa", "node"]
def num (p : Str) (i : Nat) : Str := p ++ (toString (((i : Nat) : Int)) : Str)
def poolN : List Str := poolA ++ (List.range 40).map (num "n")
theorem poolN_ok : ∀ x ∈ poolN, nameOk x = true := List.all_eq_true.mp (by decide +kernel)
theorem poolN_nd : poolN.Nodup := by decide +kernel
theorem poolN_len : poolN.length = 56 := by decide +kernel
theorem num_len (p : Str) : ∀ i ∈ List.range 40, (num p i).length ≤ p.length + 2 := by
  intro i hi
  have : ∀ i ∈ List.range 40, ((toString (((i : Nat) : Int)) : Str)).length ≤ 2 := by
    intro i hi
    have := List.all_eq_true.mp (show (List.range 40).all (fun i => decide (((toString (((i : Nat) : Int)) : Str)).length ≤ 2)) = true by decide +kernel) i hi
    exact of_decide_eq_true this
  unfold num
  rw [strLen_append]
  have := this i hi
  omega
theorem log_small {i : Nat} (h : i < 1000) : ((i : Int)).natAbs.log2 < 1920 := by
  rw [Int.natAbs_natCast]
  by_cases z : i = 0
  · subst z; decide
  · exact (Nat.log2_lt z).mpr (Nat.lt_of_lt_of_le h (Nat.le_trans (show 1000 ≤ 2 ^ 10 by decide) (Nat.pow_le_pow_right (by decide) (by decide))))
theorem cut_drop (xs : List V) : cutV xs (some 1) none = xs.drop 1 := by
  show cutV xs (some ((1 : Nat) : Int)) none = xs.drop 1
  unfold cutV
  rw [HT.sIx_nat, HT.sIx_none]
  cases xs with
  | nil => rfl
  | cons a l =>
    have : min 1 (a :: l).length = 1 := by simp
    rw [this]
    simp
theorem cut_two (xs : List V) : cutV xs none (some 2) = xs.take 2 := by
  show cutV xs none (some ((2 : Nat) : Int)) = xs.take 2
  unfold cutV
  rw [HT.sIx_nat, HT.sIx_none, List.drop_zero, Nat.sub_zero]
  by_cases h : 2 ≤ xs.length
  · rw [Nat.min_eq_left h]
  · rw [Nat.min_eq_right (by omega), List.take_length, List.take_of_length_le (by omega)]
theorem fm_len {α β : Type} {f : α → List β} {m : Nat} : ∀ {l : List α}, (∀ a ∈ l, (f a).length ≤ m) → (l.flatMap f).length ≤ l.length * m
  | [], _ => Nat.zero_le _
  | a :: l, h => by
    have h1 := fm_len (l := l) fun b m => h b (List.mem_cons_of_mem _ m)
    have h2 := h a List.mem_cons_self
    rw [List.flatMap_cons, List.length_append, List.length_cons, Nat.succ_mul]
    omega
theorem LTp.ext {H H' : Hp} {f M : Addr} {qs ms : List (Addr × Str × Str)} (h : LTp H f qs) (m : LTp H M ms) (s : Same (ers f H) (ers f H')) (e : H' f = some (.lst (qs.map (fun p => .ref p.1) ++ ms.map fun p => .ref p.1))) : LTp H' f (qs ++ ms) := by
  refine ⟨by rw [List.map_append]; exact e, fun z hz => ?_⟩
  have w : ∀ t p, UR.TP H t p → UR.TP H' t p := fun t p h0 => by
    have n : t ≠ f := fun z => by
      unfold UR.TP at h0
      rw [z, h.1] at h0; cases h0
    exact (ers_some (s _ _ ((ers_ne n).trans h0))).2
  rcases List.mem_append.mp hz with h0 | h0
  · exact w _ _ (h.2 z h0)
  · exact w _ _ (m.2 z h0)
/-- all lines that could be -/
def rowLines (z : List Str × List Str) : Ln := z.1.flatMap fun x => z.2.map fun y => (x, y)
def allLines (rows : Lv) : Ln := (rows.zip (rows.drop 1)).flatMap rowLines
section
variable {P : Program} {w : World} {K : PySem.W.Frag} {mg : Str → Option Value} {base : Heap} (T : TX K mg)
include T
def sp_law_pool : Sp := fun vs H Q _ => vs = [] ∧ ∀ H' p, Same H H' → H p = none → LS H' p poolN → Q (.ref p) H'
theorem f_law_pool : Fn P w K mg base 1 (fA K "_law_pool") sp_law_pool [] := by
  obtain ⟨fd, F⟩ := dd_law_pool T
  have nd := sc_law_pool.nd
  refine fnD F (F.bindsN fun _ _ _ _ _ _ us hl => match us, hl with | [], _ => rfl) sc_law_pool (fun vs H Q E h => ?_) (fun cdv A outer s H vs Q E hr h => ?_)
  · obtain ⟨rfl, _⟩ := h; rfl
  · obtain ⟨rfl, q⟩ := h
    refine ⟨_, PSs.nox ((pss_cons (ps_asg (pe_lst (pa_cons pe_str (pa_cons pe_str (pa_cons pe_str (pa_cons pe_str (pa_cons pe_str (pa_cons pe_str (pa_cons pe_str (pa_cons pe_str (pa_cons pe_str (pa_cons pe_str (pa_cons pe_str (pa_cons pe_str (pa_cons pe_str (pa_cons pe_str (pa_cons pe_str (pa_cons pe_str pa_nil))))))))))))))))) (pg_name (i := 0) nd rfl (by first | exact Or.inl rfl | exact Or.inr rfl)))
  (pss_one (ps_ret (pe_op op_cat (pv 0) (pe_lc (own := [("_law_at", 1)]) (g := gName 1) (tt := tYes) rfl nd (pi_range1 rfl (b_range T) (pa_cons pe_int pa_nil)) (blkOk_by (by rfl)) (fun _ _ _ _ _ => (pg_name (i := 1) nd rfl (by first | exact Or.inl rfl | exact Or.inr rfl))) (fun _ _ _ _ _ => pts_nil) (fun _ _ _ _ _ => (pe_op op_add_str pe_str (pe_callTy call_str_int rfl (b_str T) (by decide +kernel) (pa_cons (pv 1) pa_nil)))))))))), ?_⟩
    refine ⟨by show 16 ≤ sizeLine; decide, fun f hf => ?_⟩
    have s1 := same_new hf (o := .lst (poolA.map V.str))
    have ef : (upd H f (.lst (poolA.map V.str))) f = some (.lst (poolA.map V.str)) := upd_same
    refine ⟨.ref f, rfl, 40, rfl, by decide, by decide, fun D hD => ?_⟩
    refine lcG (wk_range 0 40) hD (by show (List.range 40).length < sizeLine; decide) (fun _ => true) (fun i y G => y = .str (num "n" i)) (fun i y G G' g h => h) (fun i hi v H' Nx sN _ ⟨acc, eacc⟩ e _ yes no => ?_) (fun H' ys s2 eL pp => ?_)
    · subst e
      refine ⟨rfl, tyes (iteT ?_)⟩
      have hi' := List.mem_range.mp hi
      refine ⟨.int (0 + (i : Nat)), rfl, _, rfl, by rw [Int.zero_add]; exact log_small (by omega), _, _, rfl, rfl, ?_, ?_⟩
      · rw [Int.zero_add]
        have := num_len "n" i hi
        unfold num at this
        rw [strLen_append] at this
        exact Nat.le_trans this (by decide)
      · rw [Int.zero_add]
        exact yes _ _ rfl (.refl _) rfl
    · rw [filter_yes] at pp
      have ey : ys = ((List.range 40).map (num "n")).map V.str := by
        rw [List.map_map]
        exact paired_eq pp
      subst ey
      refine ⟨f, D, _, _, rfl, rfl, (ers_same _ _) _ _ (s2 _ _ ef), eL, by show 56 ≤ sizeLine; decide, fun p hp => ?_⟩
      have s3 : Same H H' := s1.trans (s2.trans (ers_same _ _))
      refine q _ p (s3.trans (same_new hp)) (s3.free hp) ?_
      show upd H' p _ p = _
      rw [upd_same, ← List.map_append]
      rfl
/-- a plan in the heap -/
def PlanAt (H : Hp) (t : Addr) (rows : Lv) (ls : Ln) : Prop := ∃ A B, H t = some (.tup [.ref A, .ref B]) ∧ LL H A rows ∧ LT H B ls
def sp_law_all_lines : Sp := fun vs H Q _ => ∃ (a : Addr) (rows : Lv), vs = [.ref a] ∧ LL H a rows ∧ rows.length ≤ 12 ∧ (∀ r ∈ rows, r.length ≤ 18) ∧ ∀ H' p, Same H H' → H p = none → LT H' p (allLines rows) → Q (.ref p) H'
theorem f_law_all_lines : Fn P w K mg base 1 (fA K "_law_all_lines") sp_law_all_lines [] := by
  obtain ⟨fd, F⟩ := dd_law_all_lines T
  have nd := sc_law_all_lines.nd
  refine fnD F (F.bindsN fun _ _ _ _ _ _ us hl => match us, hl with | [_], _ => rfl) sc_law_all_lines (fun vs H Q E h => ?_) (fun cdv A outer s H vs Q E hr h => ?_)
  · obtain ⟨a, rows, rfl, _⟩ := h; rfl
  · obtain ⟨a, rows, rfl, ⟨ps, ep, eA, hps⟩, tall, wide, q⟩ := h
    refine ⟨_, PSs.nox ((pss_cons (ps_asg (pe_lst pa_nil) (pg_name (i := 1) nd rfl (by first | exact Or.inl rfl | exact Or.inr rfl)))
  (pss_cons (ps_for PassesOwn.never rfl (k_izip (K := K) rfl rfl (b_zip T) (pa_cons (pv 0) (pa_cons (pe_slice (k_slice (K := K) rfl) (pv 0) (po_some pe_int) po_none) pa_nil))) (k_gtup (K := K) (n := 2) rfl rfl (pgs_cons (pg_name (i := 2) nd rfl (by first | exact Or.inl rfl | exact Or.inr rfl)) (pgs_cons (pg_name (i := 3) nd rfl (by first | exact Or.inl rfl | exact Or.inr rfl)) pgs_nil)))
  (pss_one (ps_for PassesOwn.never rfl (k_ilist (K := K) rfl (pv 2)) (pg_name (i := 4) nd rfl (by first | exact Or.inl rfl | exact Or.inr rfl))
  (pss_one (ps_expr (k_bm (K := K) rfl PySem.F.plainAttrs_list PySem.F.slot_list_extend PySem.F.type_list_extend mt_extend (pv 1) (pa_cons (pe_lc (own := [("_law_high", 5)]) (g := gName 5) (tt := tYes) rfl nd (k_ilist (K := K) rfl (pv 3)) (blkOk_by (by rfl)) (fun _ _ _ _ _ => (pg_name (i := 5) nd rfl (by first | exact Or.inl rfl | exact Or.inr rfl))) (fun _ _ _ _ _ => pts_nil) (fun _ _ _ _ _ => (pe_tup (pa_cons (pv 4) (pa_cons (pv 5) pa_nil))))) pa_nil)))))))
  (pss_one (ps_ret (pv 1)))))), ?_⟩
    refine ⟨Nat.zero_le _, fun f hf => ?_⟩
    have s1 := same_new hf (o := .lst [])
    have ef : (upd H f (.lst [])) f = some (.lst []) := upd_same
    have s0 := s1.ers0 hf
    generalize upd H f (.lst []) = H1 at s1 ef s0 ⊢
    have eA1 := s1 _ _ eA
    refine ⟨.ref a, rfl, .ref a, rfl, 1, rfl, a, _, rfl, sqR eA1, fun c hc => ?_⟩
    have e1 : (upd H1 c (.lst (cutV (ps.map fun p => V.ref p.1) (some 1) none))) c = some (.lst ((ps.drop 1).map fun p => V.ref p.1)) := by rw [upd_same, cut_drop, List.map_drop]
    have nfc : f ≠ c := ne_of_none ef hc
    have s2 : Same H (ers f (upd H1 c (.lst (cutV (ps.map fun p => V.ref p.1) (some 1) none)))) := s0.trans ((same_new hc).ers f)
    have ef2 : (upd H1 c (.lst (cutV (ps.map fun p => V.ref p.1) (some 1) none))) f = some (.lst []) := same_new hc _ _ ef
    generalize upd H1 c (.lst (cutV (ps.map fun p => V.ref p.1) (some 1) none)) = H2 at e1 s2 ef2 ⊢
    have s2' := s2.trans (ers_same _ _)
    have e1f : (ers f H2) c = some (.lst ((ps.drop 1).map fun p => V.ref p.1)) := (ers_ne nfc.symm).trans e1
    have lps : ps.length ≤ 12 := by rw [ep, List.length_map] at tall; exact tall
    refine ⟨a, c, _, _, rfl, sqR (s2' _ _ eA), sqR e1, ?_⟩
    refine forG (wk_zip (K := K) (H1 := ers f H2) (f := fun p : Addr × List Str => V.ref p.1) (f2 := fun p : Addr × List Str => V.ref p.1) (sqR (s2 _ _ eA)) (good_ref _ _) (sqR e1f) (good_ref _ _)) (fun i σ H' => ∃ (y2 y3 y4 y5 : Option V) (qs : List (Addr × Str × Str)), σ = [some (.ref a), some (.ref f), y2, y3, y4, y5] ∧ Same (ers f H2) (ers f H') ∧ LTp H' f qs ∧ qs.map (·.2) = ((ps.zip (ps.drop 1)).take i).flatMap fun z => rowLines (z.1.2, z.2.2))
      ⟨none, none, none, none, [], rfl, .refl _, ⟨ef2, fun z hz => nomatch hz⟩, rfl⟩ (fun i σ H' ⟨_, _, _, _, _, _, s, _⟩ => (s.trans (ers_same _ _)).g) ?_ ?_
    · rintro i z v σ H3 H4 ez ⟨y2, y3, y4, y5, qs, rfl, s3, hq3, eqs⟩ sm ⟨t, rfl, et⟩
      have mz := List.mem_of_getElem? ez
      have mz1 : z.1 ∈ ps := (List.of_mem_zip (a := z.1) (b := z.2) mz).1
      have mz2 : z.2 ∈ ps := List.mem_of_mem_drop (List.of_mem_zip (a := z.1) (b := z.2) mz).2
      have s4 : Same H (ers f H4) := s2.trans (s3.trans (sm.ers f))
      have s4' := s4.trans (ers_same _ _)
      refine ⟨t, _, rfl, .inl (.inl et), rfl, _, _, rfl, _, _, rfl, rfl, ?_⟩
      have hz1 := (hps _ mz1).s s4'
      have wd1 := wide z.1.2 (by rw [ep]; exact List.mem_map.mpr ⟨_, mz1, rfl⟩)
      have wd2 := wide z.2.2 (by rw [ep]; exact List.mem_map.mpr ⟨_, mz2, rfl⟩)
      refine ⟨.ref z.1.1, rfl, z.1.1, rfl, ⟨_, hz1.sq⟩, ?_⟩
      refine forG (wk_list (K := K) (H1 := ers f H4) (f := V.str) ((hps _ mz1).s s4).sq (good_str _)) (fun j σ H' => ∃ (y4 y5 : Option V) (rs : List (Addr × Str × Str)), σ = [some (.ref a), some (.ref f), some (.ref z.1.1), some (.ref z.2.1), y4, y5] ∧ Same (ers f H4) (ers f H') ∧ LTp H' f (qs ++ rs) ∧ rs.map (·.2) = (z.1.2.take j).flatMap fun x => z.2.2.map fun y => (x, y))
        ⟨y4, y5, [], rfl, .refl _, by rw [List.append_nil]; exact hq3.s sm, rfl⟩ (fun i σ H' ⟨_, _, _, _, s, _⟩ => (s.trans (ers_same _ _)).g) ?_ ?_
      · rintro j x v σ H5 H6 ex ⟨y4, y5, rs, rfl, s5, hq5, ers5⟩ sm5 rfl
        have mx := List.mem_of_getElem? ex
        have s6 : Same (ers f H4) (ers f H6) := s5.trans (sm5.ers f)
        have s6' := (s4.trans s6).trans (ers_same _ _)
        have hq6 := hq5.s sm5
        have hz2 := (hps _ mz2).s s6'
        refine ⟨.ref f, rfl, .inl ⟨rfl, _, sqR hq6.1⟩, .ref z.2.1, rfl, z.2.1, rfl, ⟨_, hz2.sq⟩, fun M hM => ?_⟩
        refine lcG (wk_list (K := K) (f := V.str) hz2.sq (good_str _)) hM (sz64' (by omega)) (fun _ => true) (fun y v G => ∃ t, v = .ref t ∧ TP G t (x, y)) (fun z y G G' g ⟨t, e, h⟩ => ⟨t, e, h.s g⟩) (fun y hy v H' Nx sN _ ⟨acc, eacc⟩ e _ yes no => ?_) (fun H7 ys s7 eL pp => ?_)
        · subst e
          refine ⟨rfl, tyes (iteT ⟨.str x, rfl, .str y, rfl, by show 2 ≤ sizeLine; decide, fun t ht => ?_⟩)⟩
          have nt : t ≠ M := fun e => by rw [e, eacc] at ht; cases ht
          exact yes _ _ rfl (same_new ht) ⟨t, rfl, (ers_ne nt).trans upd_same⟩
        · rw [filter_yes] at pp
          have s7' : Same H6 H7 := s7.trans (ers_same _ _)
          obtain ⟨ms, em, hm⟩ := LT.made (gg := fun y => (x, y)) (L2.Paired.mapP pp fun d y ⟨t, e, h⟩ => ⟨t, e, h.s (ers_same _ _)⟩) eL
          have hq7 := hq6.s s7'
          have nfM : f ≠ M := fun e => by rw [← e, hq6.1] at hM; cases hM
          have ml : ms.length ≤ 18 := by
            have := congrArg List.length em
            rw [List.length_map, List.length_map] at this
            omega
          have rl : rs.length ≤ 324 := by
            have h1 := congrArg List.length ers5
            rw [List.length_map] at h1
            have h2 := fm_len (l := z.1.2.take j) (f := fun x => z.2.2.map fun y => (x, y)) (m := 18) fun x _ => by rw [List.length_map]; exact wd2
            have h3 : (z.1.2.take j).length ≤ 18 := by rw [List.length_take]; omega
            have h4 := Nat.mul_le_mul_right 18 h3
            omega
          have ql : qs.length ≤ 5000 := by
            have h1 := congrArg List.length eqs
            rw [List.length_map] at h1
            have h2 := fm_len (l := (ps.zip (ps.drop 1)).take i) (f := fun z => rowLines (z.1.2, z.2.2)) (m := 324) fun u hu => by
              have mu := List.mem_of_mem_take hu
              have w1 := wide u.1.2 (by rw [ep]; exact List.mem_map.mpr ⟨_, (List.of_mem_zip (a := u.1) (b := u.2) mu).1, rfl⟩)
              have w2 := wide u.2.2 (by rw [ep]; exact List.mem_map.mpr ⟨_, List.mem_of_mem_drop (List.of_mem_zip (a := u.1) (b := u.2) mu).2, rfl⟩)
              have h5 := fm_len (l := u.1.2) (f := fun x => u.2.2.map fun y => (x, y)) (m := 18) fun x _ => by rw [List.length_map]; exact w2
              have h6 := Nat.mul_le_mul_right 18 w1
              show (rowLines (u.1.2, u.2.2)).length ≤ 324
              unfold rowLines
              exact Nat.le_trans h5 h6
            have h3 : ((ps.zip (ps.drop 1)).take i).length ≤ 12 := by rw [List.length_take, List.length_zip]; omega
            have h4 := Nat.mul_le_mul_right 324 h3
            omega
          refine ⟨f, M, _, _, rfl, rfl, hq7.1, hm.1, by rw [List.length_map, List.length_map, List.length_append]; exact sz64 (by omega), _, _, rs ++ ms, rfl, ?_, ?_, ?_⟩
          · rw [ers_upd]
            exact s6.trans (s7'.ers f)
          · rw [← List.append_assoc]
            exact LTp.ext hq7 hm (by rw [ers_upd]; exact .refl _) upd_same
          · rw [List.map_append, ers5, ← em, List.take_add_one, ex, List.flatMap_append]
            simp
      · rintro σ H5 ⟨y4, y5, rs, rfl, s5, hq5, ers5⟩
        refine ⟨_, _, y4, y5, qs ++ rs, rfl, s3.trans ((sm.ers f).trans s5), hq5, ?_⟩
        rw [List.map_append, eqs, ers5, List.take_length, List.take_add_one, ez, List.flatMap_append]
        simp [rowLines]
    · rintro σ H3 ⟨y2, y3, y4, y5, qs, rfl, s3, hq3, eqs⟩
      have s3' := s2.trans (s3.trans (ers_same _ _))
      refine ⟨.ref f, rfl, q H3 f s3' hf ⟨qs, ?_, hq3⟩⟩
      rw [eqs, List.take_length]
      unfold allLines
      rw [ep, ← List.map_drop, List.zip_map, List.flatMap_map]
      rfl
def sp_law_sheet (K : PySem.W.Frag) : Sp := fun vs H Q _ => ∃ (t : Addr) (rows : Lv) (ls : Ln), vs = [.ref t] ∧ PlanAt H t rows ls ∧ Valid rows ls ∧ Mk1 K H Q (mkSh rows ls)
theorem f_law_sheet : Fn P w K mg base 21 (fA K "_law_sheet") (sp_law_sheet K) [] := by
  obtain ⟨fd, F⟩ := dd_law_sheet T
  have nd := sc_law_sheet.nd
  refine fnD F (F.bindsN fun _ _ _ _ _ _ us hl => match us, hl with | [_], _ => rfl) sc_law_sheet (fun vs H Q E h => ?_) (fun cdv A outer s H vs Q E hr h => ?_)
  · obtain ⟨t, rows, ls, rfl, _⟩ := h; rfl
  · obtain ⟨t, rows, ls, rfl, ⟨A, B, et, ⟨ps, ep, eA, hps⟩, ⟨qs, eq, eB, hqs⟩⟩, va, q⟩ := h
    refine ⟨_, PSs.nox ((pss_one (ps_ret (pe_n (mk T) (f_S_init T) hr (by decide) rfl (g_Sheet T) (pa_cons (pe_lc (own := [("_law_row", 1)]) (g := gName 1) (tt := tYes) rfl nd (k_ilist (K := K) rfl (pe_ix (k_ixt (K := K) rfl) (pv 0) pe_int (fun _ _ => rfl))) (blkOk_by (by rfl)) (fun _ _ _ _ _ => (pg_name (i := 1) nd rfl (by first | exact Or.inl rfl | exact Or.inr rfl))) (fun _ _ _ _ _ => pts_nil) (fun _ _ _ _ _ => (pe_callTy (k_list (K := K) rfl) rfl (b_list T) (by decide +kernel) (pa_cons (pv 1) pa_nil)))) (pa_cons (pe_callTy (k_list (K := K) rfl) rfl (b_list T) (by decide +kernel) (pa_cons (pe_ix (k_ixt (K := K) rfl) (pv 0) pe_int (fun _ _ => rfl)) pa_nil)) pa_nil)))))), ?_⟩
    have tall := va.tall
    rw [ep, List.length_map] at tall
    refine ⟨.ref t, rfl, t, _, 0, .ref A, rfl, rfl, .inl (.inl et), atI_nat (j := 0) rfl, A, rfl, ⟨_, sqR eA⟩, fun L hL => ?_⟩
    refine lcG (wk_list (K := K) (f := fun p : Addr × List Str => V.ref p.1) (sqR eA) (good_ref _ _)) hL (sz64' (by omega)) (fun _ => true) (fun z y G => ∃ t, y = .ref t ∧ LS G t z.2) (fun z y G G' g ⟨t, e, h⟩ => ⟨t, e, h.s g⟩) (fun z hz v H' Nx sN _ ⟨acc, eacc⟩ e _ yes no => ?_) (fun H' ys s2 eL pp => ?_)
    · subst e
      refine ⟨rfl, tyes (iteT ?_)⟩
      have hz1 := (hps _ hz).s (sN.trans (ers_same _ _))
      refine ⟨.ref z.1, rfl, z.1, _, rfl, .inl hz1.sq, fun t ht => ?_⟩
      have nt : t ≠ L := fun e => by rw [e, eacc] at ht; cases ht
      exact yes _ _ rfl (same_new ht) ⟨t, rfl, (ers_ne nt).trans upd_same⟩
    · rw [filter_yes] at pp
      have s3 : Same H H' := s2.trans (ers_same _ _)
      refine ⟨.ref t, rfl, t, _, 1, .ref B, rfl, rfl, .inl (.inl (s3 _ _ et)), atI_nat (j := 1) rfl, B, _, rfl, .inl (sqR (s3 _ _ eB)), fun M hM => ?_⟩
      have s4 := s3.trans (same_new hM (o := .lst (qs.map fun p => .ref p.1)))
      have lA : LL H' L rows := by
        rw [ep]
        exact LL.made (gg := fun p : Addr × List Str => p.2) (L2.Paired.mapP pp fun _ _ ⟨t, e, h⟩ => ⟨t, e, h.s (ers_same _ _)⟩) eL
      refine mkq (lA.s (same_new hM)) (.inl ⟨qs, eq, upd_same, fun z hz => (hqs z hz).s s4⟩) va (q.s s4)
end
end U

set_option linter.all false
set_option maxRecDepth 100000
set_option maxHeartbeats 8000000
/-! The law's walks, third part: plans. -/
namespace U
open PySem PySem.Spec PyProof.Rows L2 UR
theorem perm_map_inv {α β : Type} {f : α → β} {xs ys : List β} (h : xs.Perm ys) : ∀ {l : List α}, ys = l.map f → ∃ l' : List α, xs = l'.map f ∧ l'.Perm l := by
  induction h with
  | nil =>
    intro l e
    cases l with
    | nil => exact ⟨[], rfl, .nil⟩
    | cons a l => cases e
  | cons x h ih =>
    intro l e
    cases l with
    | nil => cases e
    | cons a l =>
      rw [List.map_cons] at e
      injection e with e1 e2
      obtain ⟨l', rfl, p⟩ := ih e2
      exact ⟨a :: l', by rw [e1]; rfl, p.cons a⟩
  | swap x y t =>
    intro l e
    cases l with
    | nil => cases e
    | cons a l =>
      cases l with
      | nil => cases e
      | cons b l =>
        rw [List.map_cons, List.map_cons] at e
        injection e with e1 e2
        injection e2 with e2 e3
        exact ⟨b :: a :: l, by rw [e1, e2, e3]; rfl, .swap _ _ _⟩
  | trans h1 h2 ih1 ih2 =>
    intro l e
    obtain ⟨l2, e2, p2⟩ := ih2 e
    obtain ⟨l1, e1, p1⟩ := ih1 e2
    exact ⟨l1, e1, p1.trans p2⟩
theorem map_erase {α β : Type} {f : α → β} : ∀ (l : List α) (n : Nat), (l.map f).eraseIdx n = (l.eraseIdx n).map f
  | [], n => by cases n <;> rfl
  | a :: l, 0 => rfl
  | a :: l, n + 1 => by
    show f a :: (l.map f).eraseIdx n = f a :: (l.eraseIdx n).map f
    rw [map_erase l n]
theorem map_split {α β : Type} {f : α → β} {ys zs : List β} {l : List α} (h : ys ++ zs = l.map f) : ∃ n m, l = n ++ m ∧ ys = n.map f ∧ zs = m.map f := by
  obtain ⟨n, m, e, h1, h2⟩ := List.map_eq_append_iff.mp h.symm
  exact ⟨n, m, e, h1.symm, h2.symm⟩
/-! ### lines that could be -/
theorem allLines_cons (r r' : List Str) (rest : Lv) : allLines (r :: r' :: rest) = rowLines (r, r') ++ allLines (r' :: rest) := by
  unfold allLines
  simp
theorem mem_rowLines {z : List Str × List Str} {p : Str × Str} : p ∈ rowLines z ↔ p.1 ∈ z.1 ∧ p.2 ∈ z.2 := by
  unfold rowLines
  rw [List.mem_flatMap]
  constructor
  · rintro ⟨x, hx, h⟩
    obtain ⟨y, hy, rfl⟩ := List.mem_map.mp h
    exact ⟨hx, hy⟩
  · rintro ⟨h1, h2⟩
    exact ⟨p.1, h1, List.mem_map.mpr ⟨p.2, h2, rfl⟩⟩
theorem mem_allLines : ∀ {rows : Lv} {p : Str × Str}, p ∈ allLines rows ↔ Beside rows p
  | [], p => ⟨fun h => (nomatch h), fun ⟨i, r, r', h, _⟩ => by simp at h⟩
  | [r], p => ⟨fun h => (nomatch h), fun ⟨i, a, b, h1, h2, _⟩ => by simp at h2⟩
  | r :: r' :: rest, p => by
    rw [allLines_cons, List.mem_append, mem_rowLines, mem_allLines (rows := r' :: rest)]
    constructor
    · rintro (⟨h1, h2⟩ | ⟨i, a, b, h1, h2, h3, h4⟩)
      · exact ⟨0, r, r', rfl, rfl, h1, h2⟩
      · exact ⟨i + 1, a, b, by simpa using h1, by simpa using h2, h3, h4⟩
    · rintro ⟨i, a, b, h1, h2, h3, h4⟩
      cases i with
      | zero =>
        simp at h1 h2
        subst h1 h2
        exact .inl ⟨h3, h4⟩
      | succ i => exact .inr ⟨i, a, b, by simpa using h1, by simpa using h2, h3, h4⟩
theorem Beside.mem1 {rows : Lv} {p : Str × Str} (h : Beside rows p) : p.1 ∈ rows.flatten := by
  obtain ⟨i, r, r', h1, h2, h3, h4⟩ := h
  exact List.mem_flatten.mpr ⟨r, List.mem_of_getElem? h1, h3⟩
theorem Beside.mem2 {rows : Lv} {p : Str × Str} (h : Beside rows p) : p.2 ∈ rows.flatten := by
  obtain ⟨i, r, r', h1, h2, h3, h4⟩ := h
  exact List.mem_flatten.mpr ⟨r', List.mem_of_getElem? h2, h4⟩
theorem nd_pairs (l m : List Str) (h : l.Nodup) (h2 : m.Nodup) : (rowLines (l, m)).Nodup := by
  unfold rowLines
  show List.Pairwise _ _
  rw [List.pairwise_flatMap]
  refine ⟨fun x _ => List.pairwise_map.mpr (h2.imp fun n e => n (by injection e)), h.imp fun n p hp q hq e => ?_⟩
  obtain ⟨y, _, rfl⟩ := List.mem_map.mp hp
  obtain ⟨y', _, rfl⟩ := List.mem_map.mp hq
  injection e with e1
  exact n e1
theorem allLines_nd : ∀ {rows : Lv}, rows.flatten.Nodup → (allLines rows).Nodup
  | [], _ => .nil
  | [r], _ => .nil
  | r :: r' :: rest, h => by
    rw [allLines_cons]
    rw [List.flatten_cons] at h
    obtain ⟨h1, h2, h3⟩ := List.nodup_append.mp h
    refine List.nodup_append.mpr ⟨nd_pairs _ _ h1 (List.nodup_append.mp (by rw [List.flatten_cons] at h2; exact h2)).1, allLines_nd h2, fun p hp q hq e => ?_⟩
    subst e
    exact h3 _ (mem_rowLines.mp hp).1 _ (mem_allLines.mp hq).mem1 rfl
theorem allLines_len {rows : Lv} (tall : rows.length ≤ 12) (wide : ∀ r ∈ rows, r.length ≤ 18) : (allLines rows).length ≤ 3888 := by
  unfold allLines
  have h2 := fm_len (l := rows.zip (rows.drop 1)) (f := rowLines) (m := 324) fun u hu => by
    have w1 := wide u.1 (List.of_mem_zip (a := u.1) (b := u.2) hu).1
    have w2 := wide u.2 (List.mem_of_mem_drop (List.of_mem_zip (a := u.1) (b := u.2) hu).2)
    have h5 := fm_len (l := u.1) (f := fun x => u.2.map fun y => (x, y)) (m := 18) fun x _ => by rw [List.length_map]; exact w2
    have h6 := Nat.mul_le_mul_right 18 w1
    unfold rowLines
    exact Nat.le_trans h5 h6
  have h3 : (rows.zip (rows.drop 1)).length ≤ 12 := by rw [List.length_zip]; omega
  have h4 := Nat.mul_le_mul_right 324 h3
  omega
/-! ### plans -/
structure Plan (rows : Lv) (ls : Ln) : Prop where
  ne : rows ≠ []
  tall : rows.length ≤ 6
  wide : ∀ r ∈ rows, r.length ≤ 5
  pool : ∀ x ∈ rows.flatten, x ∈ poolN
  nd : rows.flatten.Nodup
  few : ls.length ≤ 15
  lnd : ls.Nodup
  ok : ∀ p ∈ ls, p ∈ allLines rows
theorem Plan.valid {rows : Lv} {ls : Ln} (h : Plan rows ls) : Valid rows ls where
  ne := h.ne
  tall := Nat.le_trans h.tall (by decide)
  wide := fun r m => Nat.le_trans (h.wide r m) (by decide)
  names := fun r m x mx => poolN_ok x (h.pool x (List.mem_flatten.mpr ⟨r, m, mx⟩))
  nd := h.nd
  few := Nat.le_trans h.few (by decide)
  lnd := h.lnd
  ok := fun p m => mem_allLines.mp (h.ok p m)
section
variable {P : Program} {w : World} {K : PySem.W.Frag} {mg : Str → Option Value} {base : Heap} (T : TX K mg)
include T
def sp_law_plan : Sp := fun vs H Q _ => ∃ (p : Addr) (m : Nat), vs = [.ref p, .int 6, .int 5, .int m] ∧ PotAt H p ∧ m ≤ 15 ∧ ∀ H' t rows ls, Off p H H' → PotAt H' p → Plan rows ls → PlanAt H' t rows ls → Q (.ref t) H'
theorem f_law_plan : Fn P w K mg base 11 (fA K "_law_plan") sp_law_plan [] := by
  obtain ⟨fd, F⟩ := dd_law_plan T
  have nd := sc_law_plan.nd
  refine fnD F (F.bindsN fun _ _ _ _ _ _ us hl => match us, hl with | [_, _, _, _], _ => rfl) sc_law_plan (fun vs H Q E h => ?_) (fun cdv A outer s H vs Q E hr h => ?_)
  · obtain ⟨p, m, rfl, _⟩ := h; rfl
  · obtain ⟨p, m, rfl, hp, hm, q⟩ := h
    refine ⟨_, PSs.nox ((pss_cons (ps_asg (pe_tup (pa_cons (pe_f (f_law_some T) hr (by decide) rfl (g_law_some T) (kp_law_some T) (pa_cons (pv 0) (pa_cons (pe_f0 (f_law_pool T) hr (by decide) rfl (g_law_pool T) (kp_law_pool T)) (pa_cons (pe_op op_mul (pv 1) (pv 2)) pa_nil)))) (pa_cons (pe_lst pa_nil) pa_nil))) (k_gtup (K := K) (n := 2) rfl rfl (pgs_cons (pg_name (i := 4) nd rfl (by first | exact Or.inl rfl | exact Or.inr rfl)) (pgs_cons (pg_name (i := 5) nd rfl (by first | exact Or.inl rfl | exact Or.inr rfl)) pgs_nil))))
  (pss_cons (ps_for PassesOwn.never rfl (pi_range1 rfl (b_range T) (pa_cons (pe_op op_add pe_int (pe_f (f_law_draw T) hr (by decide) rfl (g_law_draw T) (kp_law_draw T) (pa_cons (pv 0) (pa_cons (pv 1) pa_nil)))) pa_nil)) (pg_name (i := 6) nd rfl (by first | exact Or.inl rfl | exact Or.inr rfl))
  (pss_one (ps_expr (k_bm (K := K) rfl PySem.F.plainAttrs_list PySem.F.slot_list_append PySem.F.type_list_append mt_append (pv 5) (pa_cons (pe_lc (own := [("_law_node", 7)]) (g := gName 7) (tt := tYes) rfl nd (pi_range1 rfl (b_range T) (pa_cons (pe_f (f_law_draw T) hr (by decide) rfl (g_law_draw T) (kp_law_draw T) (pa_cons (pv 0) (pa_cons (pe_op op_add (pv 2) pe_int) pa_nil))) pa_nil)) (blkOk_by (by rfl)) (fun _ _ _ _ _ => (pg_name (i := 7) nd rfl (by first | exact Or.inl rfl | exact Or.inr rfl))) (fun _ _ _ _ _ => pts_nil) (fun _ _ _ _ _ => (k_bm0 (K := K) rfl PySem.F.plainAttrs_list PySem.F.slot_list_pop PySem.F.type_list_pop mt_pop (pv 4)))) pa_nil)))))
  (pss_cons (ps_par (i := 8) (j := 9) rfl nd rfl rfl (by decide) rfl rfl (pa_cons (pe_f (f_law_all_lines T) hr (by decide) rfl (g_law_all_lines T) (kp_law_all_lines T) (pa_cons (pv 5) pa_nil)) (pa_cons (pe_lst pa_nil) pa_nil)) (by rfl))
  (pss_cons (ps_for PassesOwn.never rfl (pi_range1 rfl (b_range T) (pa_cons (pe_f (f_law_draw T) hr (by decide) rfl (g_law_draw T) (kp_law_draw T) (pa_cons (pv 0) (pa_cons (pe_op op_add (pv 3) pe_int) pa_nil))) pa_nil)) (pg_name (i := 6) nd rfl (by first | exact Or.inl rfl | exact Or.inr rfl))
  (pss_one (ps_if (pt_cmpR (k_neD (K := K) rfl hr.units) (pv 8) (pe_lst pa_nil) (nomark _))
  (pss_one (ps_expr (k_bm (K := K) rfl PySem.F.plainAttrs_list PySem.F.slot_list_append PySem.F.type_list_append mt_append (pv 9) (pa_cons (k_bm (K := K) rfl PySem.F.plainAttrs_list PySem.F.slot_list_pop PySem.F.type_list_pop mt_popAt (pv 8) (pa_cons (pe_f (f_law_draw T) hr (by decide) rfl (g_law_draw T) (kp_law_draw T) (pa_cons (pv 0) (pa_cons (pe_callB (k_len (K := K) rfl) rfl (b_len T) PySem.boot_len (pa_cons (pv 8) pa_nil)) pa_nil))) pa_nil)) pa_nil))))
  pss_nil)))
  (pss_one (ps_ret (pe_tup (pa_cons (pv 5) (pa_cons (pv 9) pa_nil)))))))))), ?_⟩
    refine ⟨.ref p, rfl, rfl, fun H1 l s1 fl hl => ?_⟩
    refine ⟨.int 6, rfl, .int 5, rfl, 6, 5, rfl, rfl, .inr ⟨by decide, by decide⟩, ?_⟩
    refine ⟨p, l, _, 30, rfl, hp.s s1, hl, by rw [List.length_map, poolN_len]; decide, by rw [List.length_map, poolN_len]; decide, fun H2 a ys zs g2 hp2 fa ea ly pm => ?_⟩
    obtain ⟨l', el', pm'⟩ := perm_map_inv pm (f := V.str) rfl
    obtain ⟨nm, zz, rfl, rfl, rfl⟩ := map_split el'
    rw [List.length_map] at ly
    have nmn : nm.Nodup := (List.nodup_append.mp (pm'.nodup_iff.mpr poolN_nd)).1
    have nmp : ∀ x ∈ nm, x ∈ poolN := fun x hx => pm'.mem_iff.mp (List.mem_append_left _ hx)
    clear pm pm' el'
    have g12 : Off p H (ers a H2) := off_ers0 ((Off.of s1).trans g2) (s1.free fa)
    refine ⟨Nat.zero_le _, fun R hR => ⟨by show 2 ≤ sizeLine; decide, fun t ht => ⟨t, _, rfl, .inl (.inl upd_same), rfl, _, _, rfl, _, _, rfl, rfl, ?_⟩⟩⟩
    have s3 := (same_new hR (o := .lst [])).trans (same_new ht (o := .tup [.ref a, .ref R]))
    have nRa : R ≠ a := fun e => by rw [e, ea] at hR; cases hR
    have ea3 := s3 _ _ ea
    have hp3 := hp2.s s3
    have eR3 := same_new ht (o := .tup [.ref a, .ref R]) _ _ upd_same
    have sR : Same H2 (ers R (upd (upd H2 R (.lst [])) t (.tup [.ref a, .ref R]))) := s3.ers0 hR
    have g3 := g12.trans (Off.of (sR.ers a))
    generalize upd (upd H2 R (.lst [])) t (.tup [.ref a, .ref R]) = H3 at ea3 hp3 eR3 g3 ⊢
    clear s3 sR
    refine ⟨.ref p, rfl, .int 6, rfl, p, 6, rfl, hp3, by decide, by decide, fun H4 d o4 hp4 d0 d1 => ?_⟩
    have g34 := o4
    have npa : a ≠ p := fun e => by
      obtain ⟨x, y, e2, _⟩ := hp3
      rw [e, e2] at ea3
      cases nm with
      | nil => cases ea3
      | cons b nm => cases ea3
    have npR : R ≠ p := fun e => by
      obtain ⟨x, y, e2, _⟩ := hp3
      rw [e, e2] at eR3; cases eR3
    have ea4 := o4 _ _ npa ea3
    have eR4 := o4 _ _ npR eR3
    have g4 := g3.trans (off_ers (off_ers g34))
    refine ⟨1, d, rfl, rfl, 1 + d, rfl, by omega, by omega, ?_⟩
    refine forG (Hb := fun _ => none) (bs := List.range (1 + d).toNat) (wk_range 0 _) (fun i σ H' => ∃ (y6 y7 : Option V) (rest : List Str) (ps : List (Addr × List Str)), σ = [some (.ref p), some (.int 6), some (.int 5), some (.int m), some (.ref a), some (.ref R), y6, y7, none, none] ∧ Off p H (ers a (ers R H')) ∧ PotAt H' p ∧ H' a = some (.lst (rest.map V.str)) ∧ H' R = some (.lst (ps.map fun z => .ref z.1)) ∧ (∀ z ∈ ps, LS (ers a (ers R H')) z.1 z.2 ∧ z.2.length ≤ 5) ∧ ps.length = i ∧ ((ps.map (·.2)).flatten ++ rest).Perm nm ∧ 30 ≤ rest.length + 5 * i)
      ⟨none, none, nm, [], rfl, g4, hp4, ea4, eR4, fun _ h => (nomatch h), rfl, .refl _, by omega⟩ (fun _ _ _ _ => fun b o _ z => nomatch (show (none : Option HO) = some o from z)) ?_ ?_
    · rintro i b v σ H5 H6 eb ⟨y6, y7, rest, ps, rfl, g5, hp5, ea5, eR5, hps5, lps, pm, bd⟩ sm rfl
      have hi : i < (1 + d).toNat := by
        have := (List.getElem?_eq_some_iff.mp eb).1
        rwa [List.length_range] at this
      have g6 : Off p H (ers a (ers R H6)) := g5.trans (Off.of ((sm.ers R).ers a))
      have ea6 := sm _ _ ea5
      have eR6 := sm _ _ eR5
      have hp6 := hp5.s sm
      refine ⟨.ref R, rfl, .inl ⟨rfl, _, sqR eR6⟩, .ref p, rfl, .int 5, rfl, 5, 1, rfl, rfl, p, 6, rfl, hp6, by decide, by decide, fun H7 e o7 hp7 e0 e1 => ?_⟩
      have g67 := Off.g hp6 o7
      have ea7 := o7 _ _ npa ea6
      have eR7 := o7 _ _ npR eR6
      have hps7 : ∀ z ∈ ps, LS (ers a (ers R H7)) z.1 z.2 ∧ z.2.length ≤ 5 := fun z hz => ⟨((hps5 z hz).1.s ((sm.ers R).ers a)).g (sameG_ers a (sameG_ers R g67)), (hps5 z hz).2⟩
      have g7 := g6.trans (off_ers (off_ers o7))
      refine ⟨e, rfl, by omega, by omega, fun D hD => ?_⟩
      have nDa : D ≠ a := fun z => by rw [z, ea7] at hD; cases hD
      have nDR : D ≠ R := fun z => by rw [z, eR7] at hD; cases hD
      obtain ⟨xp, yp, ep7, _⟩ := id hp7
      have nDp : D ≠ p := fun z => by rw [z, ep7] at hD; cases hD
      refine ⟨fun j k G => k = e.toNat - j ∧ j ≤ e.toNat ∧ ∃ rest' row : List Str, (∀ b o, b ≠ a → b ≠ D → H7 b = some o → G b = some o) ∧ G D = some (.lst (row.map V.str)) ∧ G a = some (.lst (rest'.map V.str)) ∧ row.length = j ∧ (row ++ rest').Perm rest, ⟨e.toNat, by omega, Nat.zero_le _, rest, [], fun b o n1 n2 z => (upd_ne n2).trans z, upd_same, (upd_ne nDa.symm).trans ea7, rfl, .refl _⟩, ?_⟩
      rintro j k G ⟨rfl, hj, rest', row, ot, eD, ea, lr, pr⟩
      by_cases hlt : j < e.toNat
      · refine .inr ⟨hlt, fun G => ∃ rest' row : List Str, (∀ b o, b ≠ a → b ≠ D → H7 b = some o → G b = some o) ∧ G D = some (.lst (row.map V.str)) ∧ G a = some (.lst (rest'.map V.str)) ∧ row.length = j + 1 ∧ (row ++ rest').Perm rest, fun G ⟨rest', row, h⟩ => ⟨e.toNat - (j + 1), by omega, rfl, by omega, rest', row, h⟩, ?_⟩
        rintro x G' ⟨rfl, rfl⟩
        have lp := pr.length_eq
        rw [List.length_append] at lp
        have hpos : rest'.length - 1 < rest'.length := by omega
        refine ⟨rfl, tyes (iteT ⟨.ref a, rfl, .inl ⟨rfl, _, sqR ea⟩, a, _, .str (rest'[rest'.length - 1]), rfl, rfl, ea, by rw [List.length_map, List.getElem?_map, List.getElem?_eq_getElem hpos]; rfl, row.map V.str, (upd_ne nDa).trans eD, by rw [List.length_map]; exact sz64' (by omega), ?_⟩)⟩
        refine ⟨rest'.dropLast, row ++ [rest'[rest'.length - 1]], fun b o n1 n2 z => by rw [upd_ne n2, upd_ne n1]; exact ot b o n1 n2 z, by rw [upd_same, List.map_append]; rfl, by rw [upd_ne nDa.symm, upd_same, List.map_dropLast], by rw [List.length_append, lr]; rfl, ?_⟩
        refine List.Perm.trans ?_ pr
        rw [List.append_assoc]
        refine List.Perm.append_left row ?_
        have hne : rest' ≠ [] := fun z => by rw [z] at hpos; simp at hpos
        have := List.dropLast_concat_getLast hne
        rw [List.getLast_eq_getElem] at this
        exact List.perm_append_comm.trans (by rw [this])
      · refine .inl ⟨by show e.toNat ≤ j; omega, ?_⟩
        have eRG := ot _ _ nRa nDR.symm eR7
        refine ⟨R, _, _, rfl, rfl, eRG, by rw [List.length_map]; exact sz64' (by omega), _, _, rest', ps ++ [(D, row)], rfl, ?_, ?_, (upd_ne nRa.symm).trans ea, by rw [upd_same, List.map_append]; rfl, ?_, by rw [List.length_append, lps]; rfl, ?_, ?_⟩
        · intro b o' gg z
          obtain ⟨n1, z1⟩ := ers_some (g7 b o' gg z)
          obtain ⟨n2, z2⟩ := ers_some z1
          have n3 : b ≠ D := fun q => by rw [q, hD] at z2; cases z2
          rw [ers_ne n1, ers_ne n2, upd_ne n2]
          exact ot _ _ n1 n3 z2
        · obtain ⟨x, y, e3, r3⟩ := hp7
          exact ⟨x, y, by rw [upd_ne npR.symm]; exact ot _ _ npa.symm nDp.symm e3, r3⟩
        · intro z hz
          rcases List.mem_append.mp hz with h | h
          · obtain ⟨h1, h2⟩ := hps7 z h
            refine ⟨?_, h2⟩
            obtain ⟨n1, z1⟩ := ers_some h1
            obtain ⟨n2, z2⟩ := ers_some z1
            have n3 : z.1 ≠ D := fun q => by rw [q, hD] at z2; cases z2
            show ers a (ers R _) z.1 = _
            rw [ers_ne n1, ers_ne n2, upd_ne n2]
            exact ot _ _ n1 n3 z2
          · cases List.mem_singleton.mp h
            refine ⟨?_, by show row.length ≤ 5; omega⟩
            show ers a (ers R _) D = _
            rw [ers_ne nDa, ers_ne nDR, upd_ne nDR]
            exact eD
        · refine List.Perm.trans ?_ pm
          rw [List.map_append, List.flatten_append, List.append_assoc]
          refine List.Perm.append_left _ ?_
          simpa using pr
        · have lp := pr.length_eq
          rw [List.length_append] at lp
          omega
    · rintro σ H5 ⟨y6, y7, rest, ps, rfl, g5, hp5, ea5, eR5, hps5, lps, pm, bd⟩
      rw [List.length_range] at lps bd
      have hLL : LL H5 R (ps.map (·.2)) := ⟨ps, rfl, eR5, fun z hz => (hps5 z hz).1.s ((ers_same _ _).trans (ers_same _ _))⟩
      have g5' : Off p H H5 := g5.trans (Off.of ((ers_same _ _).trans (ers_same _ _)))
      have wide : ∀ r ∈ ps.map (·.2), r.length ≤ 5 := fun r hr => by
        obtain ⟨z, hz, rfl⟩ := List.mem_map.mp hr
        exact (hps5 z hz).2
      have tall : (ps.map (·.2)).length ≤ 6 := by rw [List.length_map]; omega
      have ne : ps.map (·.2) ≠ [] := fun e => by
        have := List.map_eq_nil_iff.mp e
        rw [this, List.length_nil] at lps
        omega
      have nd := (List.nodup_append.mp (pm.nodup_iff.mpr nmn)).1
      have pool : ∀ x ∈ (ps.map (·.2)).flatten, x ∈ poolN := fun x hx => nmp x (pm.mem_iff.mp (List.mem_append_left _ hx))
      generalize ps.map (·.2) = rows at hLL wide tall ne nd pool
      clear g5 ea5 eR5 hps5 lps pm bd g4 ea4 eR4 g3 ea3 eR3
      have wide' : ∀ r ∈ rows, r.length ≤ 18 := fun r hr => Nat.le_trans (wide r hr) (by decide)
      have alen := allLines_len (rows := rows) (by omega) wide'
      have and := allLines_nd nd
      refine ⟨.ref R, rfl, R, rows, rfl, hLL, by omega, wide', fun H6 E s6 fE ⟨all, eall, hall⟩ => ?_⟩
      refine ⟨Nat.zero_le _, fun L hL => ⟨_, _, rfl, ?_⟩⟩
      have s7 := same_new hL (o := .lst [])
      have hE7 := hall.s s7
      have hp7 := (hp5.s s6).s s7
      have eL7 : (upd H6 L (.lst [])) L = some (.lst []) := upd_same
      have nEL : E ≠ L := ne_of_none hall.1 hL
      have s57 : Same H5 (ers E (ers L (upd H6 L (.lst [])))) := ((s6.trans (s7.ers0 hL)).ers0 fE)
      generalize upd H6 L (.lst []) = H7 at hE7 hp7 eL7 s57 ⊢
      refine ⟨.ref p, rfl, .int m, rfl, m, 1, rfl, rfl, p, m + 1, rfl, hp7, by omega, by omega, fun H8 d o8 hp8 d0 d1 => ?_⟩
      have g78 := Off.g hp7 o8
      have good0 : Good (.lst []) := fun i h => (nomatch h)
      refine ⟨d, rfl, by omega, by omega, ?_⟩
      refine forG (Hb := fun _ => none) (bs := List.range d.toNat) (wk_range 0 _) (fun i σ H' => ∃ (y6 y7 : Option V) (es ls : List (Addr × Str × Str)), σ = [some (.ref p), some (.int 6), some (.int 5), some (.int m), some (.ref a), some (.ref R), y6, y7, some (.ref E), some (.ref L)] ∧ Off p H5 (ers E (ers L H')) ∧ PotAt H' p ∧ LTp H' E es ∧ LTp H' L ls ∧ (es ++ ls).Perm all ∧ ls.length ≤ i)
        ⟨y6, y7, all, [], rfl, (Off.of s57).trans (off_ers (off_ers o8)), hp8, hE7.g g78, ⟨g78 _ _ good0 eL7, fun z hz => (nomatch hz)⟩, by rw [List.append_nil], Nat.zero_le _⟩ (fun _ _ _ _ => fun b o _ z => nomatch (show (none : Option HO) = some o from z)) ?_ ?_
      · rintro i b v σ Ha Hb eb ⟨y6, y7, es, ls, rfl, ga, hpa, hEa, hLa, pm, ll⟩ sm rfl
        have hi : i < d.toNat := by
          have := (List.getElem?_eq_some_iff.mp eb).1
          rwa [List.length_range] at this
        have gb : Off p H5 (ers E (ers L Hb)) := ga.trans (Off.of ((sm.ers L).ers E))
        have hEb := hEa.s sm
        have hLb := hLa.s sm
        have hpb := hpa.s sm
        have el : es.length ≤ 3888 := by
          have h1 := pm.length_eq
          have h2 := congrArg List.length eall
          rw [List.length_map] at h2
          rw [List.length_append] at h1
          omega
        have nm : NmLn (es.map (·.2)) := fun x hx => by
          obtain ⟨z, hz, rfl⟩ := List.mem_map.mp hx
          have : z.2 ∈ allLines rows := by
            rw [eall]
            exact List.mem_map.mpr ⟨z, pm.mem_iff.mp (List.mem_append_left _ hz), rfl⟩
          have bs := mem_allLines.mp this
          exact ⟨poolN_ok _ (pool _ bs.mem1), poolN_ok _ (pool _ bs.mem2)⟩
        refine ⟨.ref E, rfl, Nat.zero_le _, fun M hM => ⟨encLn (es.map (·.2)), encLn [], LT.dp ⟨es, rfl, hEb.s (same_new hM)⟩, .lst (sqR upd_same) .nil, shp_Ln nm, by decide +kernel, _, rfl, ?_⟩⟩
        rw [eqv_Ln]
        have sM := same_new hM (o := .lst [])
        have gc : Off p H5 (ers E (ers L (upd Hb M (.lst [])))) := gb.trans (Off.of ((sM.ers L).ers E))
        have hEc := hEb.s sM
        have hLc := hLb.s sM
        have hpc := hpb.s sM
        generalize upd Hb M (.lst []) = Hc at gc hEc hLc hpc ⊢
        by_cases emp : es.map (·.2) = []
        · rw [decide_eq_true emp]
          exact iteF ⟨_, _, es, ls, rfl, gc, hpc, hEc, hLc, pm, by omega⟩
        · rw [decide_eq_false emp]
          have pos : 0 < es.length := List.length_pos_iff.mpr fun z => emp (by rw [z]; rfl)
          refine iteT ⟨.ref L, rfl, .inl ⟨rfl, _, sqR hLc.1⟩, .ref E, rfl, .inl ⟨rfl, _, sqR hEc.1⟩, .ref p, rfl, .ref E, rfl, E, _, rfl, .inl (sqR hEc.1), p, _, rfl, hpc, by rw [List.length_map]; omega, by rw [List.length_map]; omega, fun He d2 oe hpe d20 d21 => ?_⟩
          rw [List.length_map] at d21
          have gce := Off.g hpc oe
          have hEe := hEc.g gce
          have hLe := hLc.g gce
          have hl : d2.toNat < es.length := by omega
          refine ⟨E, _, d2, d2.toNat, .ref es[d2.toNat].1, rfl, rfl, hEe.1, by omega, by omega, by rw [List.length_map]; exact seq_ix d20 d21, by rw [List.getElem?_map, List.getElem?_eq_getElem hl]; rfl, ?_⟩
          refine ⟨L, _, _, rfl, rfl, (upd_ne nEL.symm).trans hLe.1, by rw [List.length_map]; exact sz64' (by omega), _, _, es.eraseIdx d2.toNat, ls ++ [es[d2.toNat]], rfl, ?_, ?_, ?_, ?_, ?_, by rw [List.length_append]; show ls.length + 1 ≤ _; omega⟩
          · intro b o' gg z
            obtain ⟨n1, z1⟩ := ers_some (gc b o' gg z)
            obtain ⟨n2, z2⟩ := ers_some z1
            rw [ers_ne n1, ers_ne n2, upd_ne n2, upd_ne n1]
            exact oe _ _ gg z2
          · obtain ⟨x, y, e3, r3⟩ := hpe
            have n1 : p ≠ E := fun z => by
              rw [z, hEe.1] at e3
              cases es with
              | nil => cases e3
              | cons b es => cases e3
            have n2 : p ≠ L := fun z => by
              rw [z, hLe.1] at e3
              cases ls with
              | nil => cases e3
              | cons b es => cases e3
            exact ⟨x, y, by rw [upd_ne n2, upd_ne n1]; exact e3, r3⟩
          · refine ⟨by rw [upd_ne nEL, upd_same, map_erase], fun z hz => ?_⟩
            have hz' := hEe.2 z (List.mem_of_mem_eraseIdx hz)
            exact (upd_ne (ne_of hz' hLe.1 (fun z => nomatch z))).trans ((upd_ne (ne_of hz' hEe.1 (fun z => nomatch z))).trans hz')
          · refine ⟨by rw [upd_same, List.map_append]; rfl, fun z hz => ?_⟩
            have hz' : UR.TP He z.1 z.2 := by
              rcases List.mem_append.mp hz with h | h
              · exact hLe.2 z h
              · cases List.mem_singleton.mp h
                exact hEe.2 _ (List.getElem_mem hl)
            exact (upd_ne (ne_of hz' hLe.1 (fun z => nomatch z))).trans ((upd_ne (ne_of hz' hEe.1 (fun z => nomatch z))).trans hz')
          · refine List.Perm.trans ?_ pm
            rw [← List.append_assoc]
            refine List.perm_append_comm.trans ?_
            rw [← List.append_assoc]
            exact (perm_erase es _ hl).append_right ls
      · rintro σ Ha ⟨y6, y7, es, ls, rfl, ga, hpa, hEa, hLa, pm, ll⟩
        rw [List.length_range] at ll
        have o5a : Off p H5 Ha := ga.trans (Off.of ((ers_same _ _).trans (ers_same _ _)))
        have g5a := Off.g hp5 o5a
        refine ⟨.ref R, rfl, .ref L, rfl, by show 2 ≤ sizeLine; decide, fun t ht => ?_⟩
        have st := same_new ht (o := .tup [.ref R, .ref L])
        have pm2 : ((es ++ ls).map (·.2)).Perm (allLines rows) := by rw [eall]; exact pm.map (·.2)
        rw [List.map_append] at pm2
        refine q _ t rows (ls.map (·.2)) (g5'.trans (o5a.trans (Off.of st))) (hpa.s st) ⟨ne, tall, wide, pool, nd, ?_, ?_, ?_⟩ ⟨R, L, upd_same, (hLL.g g5a).s st, ls, rfl, hLa.s st⟩
        · rw [List.length_map]; omega
        · exact (List.nodup_append.mp (pm2.nodup_iff.mpr and)).2.1
        · exact fun x hx => pm2.mem_iff.mp (List.mem_append_right _ hx)
end
end U

set_option linter.all false
set_option maxRecDepth 100000
set_option maxHeartbeats 8000000
/-! The law's walks, fourth part: what hangs together, by plain data. -/
namespace U
open PySem PySem.Spec PyProof.Rows L2 UR
/-! ### one line, one round, all rounds -/
def hs1 (f : List Str) (p : Str × Str) : List Str := if p.1 ∈ f ∧ p.2 ∉ f then f ++ [p.2] else f
def hs2 (f : List Str) (p : Str × Str) : List Str := if p.2 ∈ f ∧ p.1 ∉ f then f ++ [p.1] else f
def hs (f : List Str) (p : Str × Str) : List Str := hs2 (hs1 f p) p
def hround (ls : Ln) (f : List Str) : List Str := ls.foldl hs f
def hang (ls : Ln) (x : Str) : Nat → List Str
  | 0 => [x]
  | n + 1 => hround ls (hang ls x n)
theorem hs1_sub {f : List Str} {p : Str × Str} {z : Str} (h : z ∈ f) : z ∈ hs1 f p := by
  unfold hs1
  split
  · exact List.mem_append_left _ h
  · exact h
theorem hs2_sub {f : List Str} {p : Str × Str} {z : Str} (h : z ∈ f) : z ∈ hs2 f p := by
  unfold hs2
  split
  · exact List.mem_append_left _ h
  · exact h
theorem hs_sub {f : List Str} {p : Str × Str} {z : Str} (h : z ∈ f) : z ∈ hs f p := hs2_sub (hs1_sub h)
theorem hs_up {f : List Str} {p : Str × Str} (h : p.1 ∈ f) : p.2 ∈ hs f p := by
  refine hs2_sub ?_
  unfold hs1
  by_cases m : p.2 ∈ f
  · rw [if_neg fun z => z.2 m]; exact m
  · rw [if_pos ⟨h, m⟩]; exact List.mem_append_right _ List.mem_cons_self
theorem hs_dn {f : List Str} {p : Str × Str} (h : p.2 ∈ f) : p.1 ∈ hs f p := by
  have h' := hs1_sub (p := p) h
  show p.1 ∈ hs2 (hs1 f p) p
  unfold hs2
  by_cases m : p.1 ∈ hs1 f p
  · rw [if_neg fun z => z.2 m]; exact m
  · rw [if_pos ⟨h', m⟩]; exact List.mem_append_right _ List.mem_cons_self
theorem hs_sound {ls : Ln} {f : List Str} {p : Str × Str} {x : Str} (hp : p ∈ ls) (h : ∀ z ∈ f, Conn ls x z) : ∀ z ∈ hs f p, Conn ls x z := by
  have h1 : ∀ z ∈ hs1 f p, Conn ls x z := by
    unfold hs1
    split
    · rename_i c
      intro z hz
      rcases List.mem_append.mp hz with m | m
      · exact h z m
      · cases List.mem_singleton.mp m
        exact .up (h _ c.1) hp
    · exact h
  show ∀ z ∈ hs2 (hs1 f p) p, _
  unfold hs2
  split
  · rename_i c
    intro z hz
    rcases List.mem_append.mp hz with m | m
    · exact h1 z m
    · cases List.mem_singleton.mp m
      exact .dn (h1 _ c.1) hp
  · exact h1
theorem hs_len (f : List Str) (p : Str × Str) : (hs f p).length ≤ f.length + 1 := by
  unfold hs
  by_cases c : p.1 ∈ f ∧ p.2 ∉ f
  · have e : hs1 f p = f ++ [p.2] := if_pos c
    rw [e]
    unfold hs2
    rw [if_neg fun z => z.2 (List.mem_append_left _ c.1), List.length_append]
    exact Nat.le_refl _
  · have e : hs1 f p = f := if_neg c
    rw [e]
    unfold hs2
    split
    · rw [List.length_append]
      exact Nat.le_refl _
    · exact Nat.le_succ _
theorem fold_sub : ∀ {l : Ln} {f : List Str} {z : Str}, z ∈ f → z ∈ l.foldl hs f
  | [], _, _, h => h
  | p :: l, f, z, h => by rw [List.foldl_cons]; exact fold_sub (hs_sub h)
theorem fold_both : ∀ {l : Ln} {f : List Str} {p : Str × Str}, p ∈ l → p.1 ∈ f ∨ p.2 ∈ f → p.1 ∈ l.foldl hs f ∧ p.2 ∈ l.foldl hs f
  | q :: l, f, p, m, h => by
    rw [List.foldl_cons]
    rcases List.mem_cons.mp m with rfl | m
    · rcases h with h | h
      · exact ⟨fold_sub (hs_sub h), fold_sub (hs_up h)⟩
      · exact ⟨fold_sub (hs_dn h), fold_sub (hs_sub h)⟩
    · exact fold_both m (h.imp hs_sub hs_sub)
theorem fold_sound {ls : Ln} {x : Str} : ∀ {l : Ln} {f : List Str}, (∀ p ∈ l, p ∈ ls) → (∀ z ∈ f, Conn ls x z) → ∀ z ∈ l.foldl hs f, Conn ls x z
  | [], _, _, h => h
  | p :: l, f, s, h => by
    rw [List.foldl_cons]
    exact fold_sound (fun q m => s q (List.mem_cons_of_mem _ m)) (hs_sound (s p List.mem_cons_self) h)
theorem fold_len : ∀ (l : Ln) (f : List Str), (l.foldl hs f).length ≤ f.length + l.length
  | [], f => by simp
  | p :: l, f => by
    rw [List.foldl_cons, List.length_cons]
    have h1 := fold_len l (hs f p)
    have h2 := hs_len f p
    omega
/-- closed under the lines -/
def Cl (ls : Ln) (f : List Str) : Prop := ∀ p ∈ ls, p.1 ∈ f ↔ p.2 ∈ f
theorem hs_id {f : List Str} {p : Str × Str} (h : p.1 ∈ f ↔ p.2 ∈ f) : hs f p = f := by
  have h1 : hs1 f p = f := if_neg fun z => z.2 (h.mp z.1)
  unfold hs
  rw [h1]
  exact if_neg fun z => z.2 (h.mpr z.1)
theorem fold_id : ∀ {l : Ln} {f : List Str}, Cl l f → l.foldl hs f = f
  | [], _, _ => rfl
  | p :: l, f, h => by
    rw [List.foldl_cons, hs_id (h p List.mem_cons_self)]
    exact fold_id fun q m => h q (List.mem_cons_of_mem _ m)
theorem filter_lt {α : Type} {a b : α → Bool} : ∀ {l : List α}, (∀ x ∈ l, a x = true → b x = true) → (∃ x ∈ l, b x = true ∧ a x = false) → (l.filter a).length < (l.filter b).length
  | [], _, ⟨_, m, _⟩ => nomatch m
  | y :: l, s, ⟨x, m, hb, ha⟩ => by
    have le : (l.filter a).length ≤ (l.filter b).length := by
      have : ∀ l : List α, (∀ x ∈ l, a x = true → b x = true) → (l.filter a).length ≤ (l.filter b).length := by
        intro l
        induction l with
        | nil => exact fun _ => Nat.le_refl _
        | cons y l ih =>
          intro s
          have h1 := ih fun x m => s x (List.mem_cons_of_mem _ m)
          rw [List.filter_cons, List.filter_cons]
          by_cases e : a y = true
          · rw [if_pos e, if_pos (s y List.mem_cons_self e)]
            simpa using h1
          · rw [if_neg e]
            split
            · rw [List.length_cons]; omega
            · exact h1
      exact this l fun x m => s x (List.mem_cons_of_mem _ m)
    rw [List.filter_cons, List.filter_cons]
    rcases List.mem_cons.mp m with rfl | m
    · rw [if_pos hb, if_neg (by rw [ha]; exact Bool.false_ne_true), List.length_cons]
      omega
    · have h1 := filter_lt (l := l) (fun x m => s x (List.mem_cons_of_mem _ m)) ⟨x, m, hb, ha⟩
      by_cases e : a y = true
      · rw [if_pos e, if_pos (s y List.mem_cons_self e), List.length_cons, List.length_cons]
        omega
      · rw [if_neg e]
        split
        · rw [List.length_cons]; omega
        · exact h1
/-- the lines with both ends in -/
def dnn (ls : Ln) (f : List Str) : Nat := (ls.filter fun p => decide (p.1 ∈ f) && decide (p.2 ∈ f)).length
theorem hang_count (ls : Ln) (x : Str) : ∀ n, Cl ls (hang ls x n) ∨ n ≤ dnn ls (hang ls x n)
  | 0 => .inr (Nat.zero_le _)
  | n + 1 => by
    show Cl ls (hround ls (hang ls x n)) ∨ n + 1 ≤ dnn ls (hround ls (hang ls x n))
    generalize hang ls x n = f, hang_count ls x n = ih
    by_cases c : Cl ls f
    · left
      unfold hround
      rw [fold_id c]
      exact c
    · right
      have ih := ih.resolve_left c
      refine Nat.lt_of_le_of_lt ih (filter_lt (fun p m e => ?_) ?_)
      · rw [Bool.and_eq_true, decide_eq_true_eq, decide_eq_true_eq] at e ⊢
        exact ⟨fold_sub e.1, fold_sub e.2⟩
      · obtain ⟨p, h⟩ := Classical.not_forall.mp c
        obtain ⟨m, h⟩ := Classical.not_imp.mp h
        have one : p.1 ∈ f ∨ p.2 ∈ f := by
          by_cases a : p.1 ∈ f
          · exact .inl a
          · by_cases b : p.2 ∈ f
            · exact .inr b
            · exact (h ⟨fun z => (a z).elim, fun z => (b z).elim⟩).elim
        refine ⟨p, m, ?_, ?_⟩
        · rw [Bool.and_eq_true, decide_eq_true_eq, decide_eq_true_eq]
          exact fold_both m one
        · rw [Bool.and_eq_false_iff, decide_eq_false_iff_not, decide_eq_false_iff_not]
          by_cases a : p.1 ∈ f
          · exact .inr fun b => h ⟨fun _ => b, fun _ => a⟩
          · exact .inl a
theorem hang_sub (ls : Ln) (x : Str) : ∀ n, x ∈ hang ls x n
  | 0 => List.mem_cons_self
  | n + 1 => fold_sub (hang_sub ls x n)
theorem hang_sound (ls : Ln) (x : Str) : ∀ n, ∀ z ∈ hang ls x n, Conn ls x z
  | 0 => fun z hz => by cases List.mem_singleton.mp hz; exact .refl _
  | n + 1 => fold_sound (fun _ m => m) (hang_sound ls x n)
theorem hang_len (ls : Ln) (x : Str) : ∀ n, (hang ls x n).length ≤ 1 + n * ls.length
  | 0 => by simp [hang]
  | n + 1 => by
    have h1 := hang_len ls x n
    have h2 := fold_len ls (hang ls x n)
    show (ls.foldl hs (hang ls x n)).length ≤ _
    rw [Nat.succ_mul]
    omega
theorem mem_hang {ls : Ln} {x y : Str} : y ∈ hang ls x (ls.length + 1) ↔ Conn ls x y := by
  refine ⟨hang_sound ls x _ y, fun h => ?_⟩
  have c : Cl ls (hang ls x (ls.length + 1)) := by
    refine (hang_count ls x _).resolve_right fun z => ?_
    have : dnn ls (hang ls x (ls.length + 1)) ≤ ls.length := List.length_filter_le _ _
    omega
  refine conn_closed (hang_sub ls x _) (fun z hz u hu => ?_) h
  rcases List.mem_append.mp hu with m | m
  · exact (c _ (mem_upL.mp m)).mp hz
  · exact (c _ (mem_dnL.mp m)).mpr hz
theorem half (K : PySem.W.Frag) {i j : Nat} {u v : Str} {f : Addr} {g : List Str} {σ : L2.St} {D : Ends} {H : Hp} (hu : σ[i]? = some (some (V.str u))) (hv : σ[j]? = some (some (V.str v))) (hf : σ[2]? = some (some (V.ref f)))
    (e : LS H f g) (z : g.length ≤ 1000000) (q : ∀ H', Same (ers f H) (ers f H') → LS H' f (if u ∈ g ∧ v ∉ g then g ++ [v] else g) → D.nx σ H') :
    tIfS (tAnd (tTest (tOp (rIn K false) (tVar i) (tVar 2))) (tTest (tOp (rIn K true) (tVar j) (tVar 2)))) (tDrop (tBM K "list" rAppend (tVar 2) (tCons (tVar j) tNil))) tNext D σ H := by
  refine ⟨.str u, hu, .ref f, hf, f, _, rfl, .inl e.sq, rfl, flat_strs g, _, rfl, ?_⟩
  rw [inV_str]
  by_cases c1 : u ∈ g
  · rw [decide_eq_true c1]
    refine iteT ⟨.str v, hv, .ref f, hf, f, _, rfl, .inl e.sq, rfl, flat_strs g, _, rfl, ?_⟩
    rw [inV_str]
    by_cases c2 : v ∈ g
    · rw [decide_eq_true c2]
      exact iteF (q H (.refl _) (by rw [if_neg fun z => z.2 c2]; exact e))
    · rw [decide_eq_false c2]
      refine iteT ⟨.ref f, hf, .inl ⟨rfl, _, sqR e⟩, .str v, hv, f, _, _, rfl, rfl, e, by rw [List.length_map]; exact sz64' (by omega), ?_⟩
      exact q _ (by rw [ers_upd]; exact .refl _) (by rw [if_pos ⟨c1, c2⟩]; show upd H f _ f = _; rw [upd_same, List.map_append]; rfl)
  · rw [decide_eq_false c1]
    exact iteF (q H (.refl _) (by rw [if_neg fun z => c1 z.1]; exact e))
section
variable {P : Program} {w : World} {K : PySem.W.Frag} {mg : Str → Option Value} {base : Heap} (T : TX K mg)
include T
def sp_law_hanging : Sp := fun vs H Q _ => ∃ (t : Addr) (rows : Lv) (ls : Ln) (x : Str), vs = [.ref t, .str x] ∧ PlanAt H t rows ls ∧ ls.length ≤ 200 ∧ ∀ H' p f, Same H H' → H p = none → LS H' p f → (∀ y, y ∈ f ↔ Conn ls x y) → f.length ≤ 50000 → Q (.ref p) H'
theorem f_law_hanging : Fn P w K mg base 6 (fA K "_law_hanging") sp_law_hanging [] := by
  obtain ⟨fd, F⟩ := dd_law_hanging T
  have nd := sc_law_hanging.nd
  refine fnD F (F.bindsN fun _ _ _ _ _ _ us hl => match us, hl with | [_, _], _ => rfl) sc_law_hanging (fun vs H Q E h => ?_) (fun cdv A outer s H vs Q E hr h => ?_)
  · obtain ⟨t, rows, ls, x, rfl, _⟩ := h; rfl
  · obtain ⟨t, rows, ls, x, rfl, ⟨A, B, et, hA, ⟨qs, eq, eB, hqs⟩⟩, few, q⟩ := h
    refine ⟨_, PSs.nox ((pss_cons (ps_asg (pe_lst (pa_cons (pv 1) pa_nil)) (pg_name (i := 2) nd rfl (by first | exact Or.inl rfl | exact Or.inr rfl)))
  (pss_cons (ps_for PassesOwn.never rfl (pi_range1 rfl (b_range T) (pa_cons (pe_op op_add (pe_callB (k_len (K := K) rfl) rfl (b_len T) PySem.boot_len (pa_cons (pe_ix (k_ixt (K := K) rfl) (pv 0) pe_int (fun _ _ => rfl)) pa_nil)) pe_int) pa_nil)) (pg_name (i := 3) nd rfl (by first | exact Or.inl rfl | exact Or.inr rfl))
  (pss_one (ps_for PassesOwn.never rfl (k_ilist (K := K) rfl (pe_ix (k_ixt (K := K) rfl) (pv 0) pe_int (fun _ _ => rfl))) (k_gtup (K := K) (n := 2) rfl rfl (pgs_cons (pg_name (i := 4) nd rfl (by first | exact Or.inl rfl | exact Or.inr rfl)) (pgs_cons (pg_name (i := 5) nd rfl (by first | exact Or.inl rfl | exact Or.inr rfl)) pgs_nil)))
  (pss_cons (ps_if (PW.pt (pw_and (pt_cmpR (k_in (K := K) rfl) (pv 4) (pv 2) (by with_unfolding_all rfl)) (pw_and1 (pt_cmpR (k_notin (K := K) rfl) (pv 5) (pv 2) (by with_unfolding_all rfl)))))
  (pss_one (ps_expr (k_bm (K := K) rfl PySem.F.plainAttrs_list PySem.F.slot_list_append PySem.F.type_list_append mt_append (pv 2) (pa_cons (pv 5) pa_nil))))
  pss_nil)
  (pss_one (ps_if (PW.pt (pw_and (pt_cmpR (k_in (K := K) rfl) (pv 5) (pv 2) (by with_unfolding_all rfl)) (pw_and1 (pt_cmpR (k_notin (K := K) rfl) (pv 4) (pv 2) (by with_unfolding_all rfl)))))
  (pss_one (ps_expr (k_bm (K := K) rfl PySem.F.plainAttrs_list PySem.F.slot_list_append PySem.F.type_list_append mt_append (pv 2) (pa_cons (pv 4) pa_nil))))
  pss_nil))))))
  (pss_one (ps_ret (pv 2)))))), ?_⟩
    refine ⟨.str x, rfl, by show 1 ≤ sizeLine; exact sz64 (by decide), fun f hf => ?_⟩
    have s1 := same_new hf (o := .lst [.str x])
    have ef : (upd H f (.lst [.str x])) f = some (.lst ([x].map V.str)) := upd_same
    have s0 := s1.ers0 hf
    generalize upd H f (.lst [.str x]) = H1 at s1 ef s0 ⊢
    have et1 := s1 _ _ et
    have eB1 := s1 _ _ eB
    refine ⟨.ref t, rfl, t, _, 1, .ref B, rfl, rfl, .inl (.inl et1), atI_nat (j := 1) rfl, B, _, rfl, .inl (sqR eB1), _, 1, rfl, rfl, ((ls.length + 1 : Nat) : Int), by rw [List.length_map, eq, List.length_map]; rfl, by omega, by omega, ?_⟩
    refine forG (Hb := H) (bs := List.range (((ls.length + 1 : Nat) : Int)).toNat) (wk_range 0 _) (fun i σ H' => ∃ (y3 y4 y5 : Option V), σ = [some (.ref t), some (.str x), some (.ref f), y3, y4, y5] ∧ Same H (ers f H') ∧ LS H' f (hang ls x i))
      ⟨none, none, none, rfl, s0, ef⟩ (fun i σ H' ⟨_, _, _, _, s, _⟩ => (s.trans (ers_same _ _)).g) ?_ ?_
    · rintro i b v σ H2 H3 eb ⟨y3, y4, y5, rfl, s2, ef2⟩ sm rfl
      have s3 := s2.trans (sm.ers f)
      have s3' := s3.trans (ers_same _ _)
      have ef3 := sm _ _ ef2
      refine ⟨.ref t, rfl, t, _, 1, .ref B, rfl, rfl, .inl (.inl (s3' _ _ et)), atI_nat (j := 1) rfl, B, rfl, ⟨_, sqR (s3' _ _ eB)⟩, ?_⟩
      refine forG (wk_list (K := K) (H1 := H) (f := fun p : Addr × Str × Str => V.ref p.1) (sqR eB) (good_ref _ _)) (fun j σ H' => ∃ (y3 y4 y5 : Option V), σ = [some (.ref t), some (.str x), some (.ref f), y3, y4, y5] ∧ Same H (ers f H') ∧ LS H' f ((ls.take j).foldl hs (hang ls x i)))
        ⟨_, y4, y5, rfl, s3, ef3⟩ (fun i σ H' ⟨_, _, _, _, s, _⟩ => (s.trans (ers_same _ _)).g) ?_ ?_
      · rintro j z v σ H4 H5 ez ⟨y3, y4, y5, rfl, s4, ef4⟩ sm5 rfl
        have mz := List.mem_of_getElem? ez
        have s5 := s4.trans (sm5.ers f)
        have s5' := s5.trans (ers_same _ _)
        have ef5 := sm5 _ _ ef4
        have tz := (hqs z mz).s s5'
        refine ⟨z.1, _, rfl, .inl (.inl tz), rfl, _, _, rfl, _, _, rfl, rfl, ?_⟩
        have hl : ((ls.take j).foldl hs (hang ls x i)).length ≤ 90000 := by
          have ib : i < ls.length + 1 := by
            have := (List.getElem?_eq_some_iff.mp eb).1
            rwa [List.length_range, Int.toNat_natCast] at this
          have h1 := fold_len (ls.take j) (hang ls x i)
          have h2 := hang_len ls x i
          have h3 : i * ls.length ≤ 201 * 200 := Nat.mul_le_mul (by omega) (by omega)
          have h4 : (ls.take j).length ≤ ls.length := by rw [List.length_take]; omega
          omega
        have elz : ls[j]? = some z.2 := by rw [eq, List.getElem?_map, ez]; rfl
        have est : (ls.take (j + 1)).foldl hs (hang ls x i) = hs ((ls.take j).foldl hs (hang ls x i)) z.2 := by
          rw [List.take_add_one, elz, List.foldl_append]
          rfl
        rw [est]
        refine half K rfl rfl rfl ef5 (by omega) fun H6 s6 ef6 => ?_
        refine half K rfl rfl rfl ef6 ?_ fun H7 s7 ef7 => ?_
        · split
          · rw [List.length_append]
            show _ + 1 ≤ _
            omega
          · omega
        · exact ⟨_, _, _, rfl, s5.trans (s6.trans s7), ef7⟩
      · rintro σ H4 ⟨y3, y4, y5, rfl, s4, ef4⟩
        rw [List.take_of_length_le (by rw [eq, List.length_map]; exact Nat.le_refl _)] at ef4
        exact ⟨_, _, _, rfl, s4, ef4⟩
    · rintro σ H2 ⟨y3, y4, y5, rfl, s2, ef2⟩
      rw [List.length_range, Int.toNat_natCast] at ef2
      have hl := hang_len ls x (ls.length + 1)
      have hb : (ls.length + 1) * ls.length ≤ 201 * 200 := Nat.mul_le_mul (by omega) (by omega)
      exact ⟨.ref f, rfl, q H2 f _ (s2.trans (ers_same _ _)) hf ef2 (fun y => mem_hang) (by omega)⟩
end
end U

set_option linter.all false
set_option maxRecDepth 100000
set_option maxHeartbeats 8000000
/-! The law's walks, fifth part: the parts, by plain data. -/
namespace U
open PySem PySem.Spec PyProof.Rows L2 UR
theorem mkSh_filter (rows : Lv) (ls : Ln) (f : Str → Bool) (g : Str × Str → Bool) : mkSh (rows.map fun r => r.filter f) (ls.filter g) = ⟨(mkSh rows ls).lv.map fun r => r.filter f, (mkSh rows ls).ln.filter g⟩ := by
  unfold mkSh
  rw [srtL_filter, List.map_map, List.map_map]
  congr 1
  refine List.map_congr_left fun r _ => ?_
  exact srt_filter f r
theorem mem_srtL {ls : Ln} {p : Str × Str} : p ∈ srtL ls ↔ p ∈ ls := (srtL_perm ls).mem_iff
theorem conn_srtL {ls : Ln} {x y : Str} : Conn (srtL ls) x y ↔ Conn ls x y := Conn.congr fun _ => mem_srtL
theorem roots_len (ln : Ln) : ∀ (l seen : List Str), (roots ln seen l).length ≤ l.length
  | [], _ => Nat.zero_le _
  | x :: l, seen => by
    unfold roots
    split
    · exact Nat.le_trans (roots_len ln l _) (Nat.le_succ _)
    · rw [List.length_cons, List.length_cons]
      exact Nat.succ_le_succ (roots_len ln l _)
section
variable {P : Program} {w : World} {K : PySem.W.Frag} {mg : Str → Option Value} {base : Heap} (T : TX K mg)
include T
def sp_law_parts (K : PySem.W.Frag) : Sp := fun vs H Q _ => ∃ (t : Addr) (rows : Lv) (ls : Ln), vs = [.ref t] ∧ PlanAt H t rows ls ∧ Valid rows ls ∧
  ∀ H' p (as : List Addr), Same H H' → H p = none → H' p = some (.lst (as.map V.ref)) → Paired (SheetAt K (ers p H')) as (partsOf (mkSh rows ls)) → Q (.ref p) H'
theorem f_law_parts : Fn P w K mg base 21 (fA K "_law_parts") (sp_law_parts K) [] := by
  obtain ⟨fd, F⟩ := dd_law_parts T
  have nd := sc_law_parts.nd
  refine fnD F (F.bindsN fun _ _ _ _ _ _ us hl => match us, hl with | [_], _ => rfl) sc_law_parts (fun vs H Q E h => ?_) (fun cdv A outer s H vs Q E hr h => ?_)
  · obtain ⟨t, rows, ls, rfl, _⟩ := h; rfl
  · obtain ⟨t, rows, ls, rfl, hP, va, q⟩ := h
    have hu := hu_of hr
    refine ⟨_, PSs.nox ((pss_cons (ps_par (i := 1) (j := 2) rfl nd rfl rfl (by decide) rfl rfl (pa_cons (pe_lst pa_nil) (pa_cons (pe_lst pa_nil) pa_nil)) (by rfl))
  (pss_cons (ps_for PassesOwn.never rfl (k_ilist (K := K) rfl (pe_ix (k_ixt (K := K) rfl) (pv 0) pe_int (fun _ _ => rfl))) (pg_name (i := 3) nd rfl (by first | exact Or.inl rfl | exact Or.inr rfl))
  (pss_one (ps_for PassesOwn.never rfl (k_ilist (K := K) rfl (pe_callB (k_sortN (K := K) rfl hr.units) rfl (b_sorted T) (by decide +kernel) (pa_cons (pv 3) pa_nil))) (pg_name (i := 4) nd rfl (by first | exact Or.inl rfl | exact Or.inr rfl))
  (pss_one (ps_if (pt_cmpR (k_notin (K := K) rfl) (pv 4) (pv 2) (by with_unfolding_all rfl))
  (pss_cons (ps_asg (pe_f (f_law_hanging T) hr (by decide) rfl (g_law_hanging T) (kp_law_hanging T) (pa_cons (pv 0) (pa_cons (pv 4) pa_nil))) (pg_name (i := 5) nd rfl (by first | exact Or.inl rfl | exact Or.inr rfl)))
  (pss_cons (ps_expr (k_bm (K := K) rfl PySem.F.plainAttrs_list PySem.F.slot_list_extend PySem.F.type_list_extend mt_extend (pv 2) (pa_cons (pv 5) pa_nil)))
  (pss_cons (ps_setLc (own := [("_law_further", 8)]) (g := gName 8) (tt := tYes) (i := 6) rfl nd rfl rfl (sw_true rfl rfl rfl (by decide +kernel)) (k_ilist (K := K) rfl (pe_ix (k_ixt (K := K) rfl) (pv 0) pe_int (fun _ _ => rfl))) (blkOk_by (by rfl)) (fun _ _ _ _ _ => (pg_name (i := 8) nd rfl (by first | exact Or.inl rfl | exact Or.inr rfl))) (fun _ _ _ _ _ => pts_nil) (fun _ _ _ _ _ => (pe_lc (own := [("_law_near", 7)]) (g := gName 7) rfl nd (k_ilist (K := K) rfl (pv 8)) (blkOk_by (by rfl)) (fun _ _ _ _ _ => (pg_name (i := 7) nd rfl (by first | exact Or.inl rfl | exact Or.inr rfl))) (fun _ _ _ _ _ => (pts_one (pt_cmpR (k_in (K := K) rfl) (pv 7) (pv 5) (by with_unfolding_all rfl)))) (fun _ _ _ _ _ => (pv 7)))))
  (pss_one (ps_expr (k_bm (K := K) rfl PySem.F.plainAttrs_list PySem.F.slot_list_append PySem.F.type_list_append mt_append (pv 1) (pa_cons (pe_n (mk T) (f_S_init T) hr (by decide) rfl (g_Sheet T) (pa_cons (pv 6) (pa_cons (pe_lc (own := [("_law_one", 9)]) (g := gName 9) rfl nd (k_ilist (K := K) rfl (pe_ix (k_ixt (K := K) rfl) (pv 0) pe_int (fun _ _ => rfl))) (blkOk_by (by rfl)) (fun _ _ _ _ _ => (pg_name (i := 9) nd rfl (by first | exact Or.inl rfl | exact Or.inr rfl))) (fun _ _ _ _ _ => (pts_one (pt_cmpR (k_in (K := K) rfl) (pe_ix (k_ixt (K := K) rfl) (pv 9) pe_int (fun _ _ => rfl)) (pv 5) (by with_unfolding_all rfl)))) (fun _ _ _ _ _ => (pv 9))) pa_nil))) pa_nil)))))))
  pss_nil)))))
  (pss_one (ps_ret (pv 1)))))), ?_⟩
    obtain ⟨A', B, et, ⟨ps, ep, eA, hps⟩, ⟨qs, eq, eB, hqs⟩⟩ := id hP
    have nlen := va.flat
    have tall := va.tall
    rw [ep, List.length_map] at tall
    have few := va.few
    have few' := va.few
    rw [eq, List.length_map] at few
    generalize hS : mkSh rows ls = S at q
    have eln : ∀ {x y : Str}, Conn S.ln x y ↔ Conn ls x y := by rw [← hS]; exact conn_srtL
    have elv : S.lv.flatten = (rows.map srt).flatten := by rw [← hS]; rfl
    refine ⟨Nat.zero_le _, fun f hf => ⟨Nat.zero_le _, fun k hk => ⟨_, _, rfl, ?_⟩⟩⟩
    have s1 : Same H (upd H f (.lst [])) := same_new hf
    have s2 : Same (upd H f (.lst [])) (upd (upd H f (.lst [])) k (.lst [])) := same_new hk
    have hkH : H k = none := s1.free hk
    have nfk : f ≠ k := fun e => by rw [← e, upd_same] at hk; cases hk
    have ef : (upd (upd H f (.lst [])) k (.lst [])) f = some (.lst []) := s2 _ _ upd_same
    have ek : (upd (upd H f (.lst [])) k (.lst [])) k = some (.lst []) := upd_same
    have s12 := ((s1.trans s2).ers0 hkH).ers0 hf
    generalize upd (upd H f (.lst [])) k (.lst []) = H2 at ef ek s12 ⊢
    have s12' : Same H H2 := (s12.trans (ers_same _ _)).trans (ers_same _ _)
    refine ⟨.ref t, rfl, t, _, 0, .ref A', rfl, rfl, .inl (.inl (s12' _ _ et)), atI_nat (j := 0) rfl, A', rfl, ⟨_, sqR (s12' _ _ eA)⟩, ?_⟩
    refine forG (wk_list (K := K) (f := fun p : Addr × List Str => V.ref p.1) (sqR eA) (good_ref _ _)) (fun i σ H' => ∃ (y3 y4 y5 y6 y7 y8 y9 : Option V) (kn : List Str) (as : List Addr), σ = [some (.ref t), some (.ref f), some (.ref k), y3, y4, y5, y6, y7, y8, y9] ∧ Same H (ers f (ers k H')) ∧
        H' f = some (.lst (as.map V.ref)) ∧ LS H' k kn ∧ kn.length ≤ 50000 * ((rows.take i).map srt).flatten.length ∧ (∀ z, z ∈ kn ↔ ∃ y ∈ ((rows.take i).map srt).flatten, Conn S.ln y z) ∧ Paired (SheetAt K (ers f (ers k H'))) as ((roots S.ln [] ((rows.take i).map srt).flatten).map (restr S)))
      ⟨none, none, none, none, none, none, none, [], [], rfl, s12, ef, ek, Nat.zero_le _, fun z => ⟨fun h => (by cases h), fun ⟨y, h, _⟩ => (by simp at h)⟩, by unfold roots; exact .nil⟩ (fun i σ H' ⟨_, _, _, _, _, _, _, _, _, _, s, _⟩ => ((s.trans (ers_same _ _)).trans (ers_same _ _)).g) ?_ ?_
    · rintro i rw0 v σ H3 H4 exi ⟨y3, y4, y5, y6, y7, y8, y9, kn, as, rfl, s3, ef3, ek3, lk, mem, pr⟩ sm rfl
      have mrw := List.mem_of_getElem? exi
      have s4 : Same H (ers f (ers k H4)) := s3.trans (same_ers2 sm)
      have s4' : Same H H4 := (s4.trans (ers_same _ _)).trans (ers_same _ _)
      have ef4 := sm _ _ ef3
      have ek4 := sm _ _ ek3
      have pr4 := L2.Paired.mapP pr fun _ _ h => h.s (same_ers2 (f := f) (k := k) sm)
      have erow : rows[i]? = some rw0.2 := by rw [ep, List.getElem?_map, exi]; rfl
      have etk : ((rows.take (i + 1)).map srt).flatten = ((rows.take i).map srt).flatten ++ srt rw0.2 := by
        rw [List.take_add_one, erow, List.map_append, List.flatten_append]
        simp
      have hz1 := (hps _ mrw).s s4'
      refine ⟨.ref rw0.1, rfl, rw0.1, rw0.2, rfl, hz1.sq, fun _ _ => True.intro, fun so hso => ⟨so, rfl, ⟨_, sqR upd_same⟩, ?_⟩⟩
      have sS := same_new hso (o := .lst ((rw0.2.mergeSort sle).map V.str))
      have eso : (upd H4 so (.lst ((rw0.2.mergeSort sle).map V.str))) so = some (.lst ((srt rw0.2).map V.str)) := upd_same
      have s5 := s4.trans (same_ers2 (f := f) (k := k) sS)
      have ef5 := sS _ _ ef4
      have ek5 := sS _ _ ek4
      have pr5 := L2.Paired.mapP pr4 fun _ _ h => h.s (same_ers2 (f := f) (k := k) sS)
      have nsf : so ≠ f := fun e => by rw [e, ef4] at hso; cases hso
      have nsk : so ≠ k := fun e => by
        have ek4' : H4 k = some (.lst (kn.map V.str)) := ek4
        rw [e, ek4'] at hso; cases hso
      generalize upd H4 so (.lst ((rw0.2.mergeSort sle).map V.str)) = H5 at eso s5 ef5 ek5 pr5 ⊢
      have eso' : (ers f (ers k H5)) so = some (.lst ((srt rw0.2).map V.str)) := by rw [ers_ne nsf, ers_ne nsk]; exact eso
      clear pr pr4
      refine forG (wk_list (K := K) (H1 := ers f (ers k H5)) (f := V.str) (sqR eso') (good_str _)) (fun j σ H' => ∃ (y4 y5 y6 y7 y8 y9 : Option V) (kn : List Str) (as : List Addr), σ = [some (.ref t), some (.ref f), some (.ref k), some (.ref rw0.1), y4, y5, y6, y7, y8, y9] ∧ Same (ers f (ers k H5)) (ers f (ers k H')) ∧
          H' f = some (.lst (as.map V.ref)) ∧ LS H' k kn ∧ kn.length ≤ 50000 * (((rows.take i).map srt).flatten ++ (srt rw0.2).take j).length ∧ (∀ z, z ∈ kn ↔ ∃ y ∈ (((rows.take i).map srt).flatten ++ (srt rw0.2).take j), Conn S.ln y z) ∧ Paired (SheetAt K (ers f (ers k H'))) as ((roots S.ln [] (((rows.take i).map srt).flatten ++ (srt rw0.2).take j)).map (restr S)))
        ⟨y4, y5, y6, y7, y8, y9, kn, as, rfl, .refl _, ef5, ek5, by simpa using lk, by simpa using mem, by simpa using pr5⟩ (fun i σ H' ⟨_, _, _, _, _, _, _, _, _, s, _⟩ => ((s.trans (ers_same _ _)).trans (ers_same _ _)).g) ?_ ?_
      · clear lk mem pr5 ek5 ef5 ek4 ef4 ek3 ef3
        rintro j x v σ H6 H7 exj ⟨y4, y5, y6, y7, y8, y9, kn, as, rfl, s6, ef6, ek6, lk, mem, pr⟩ sm7 rfl
        have mx0 : x ∈ srt rw0.2 := List.mem_of_getElem? exj
        have mx : x ∈ rows.flatten := List.mem_flatten.mpr ⟨rw0.2, List.mem_of_getElem? erow, (srt_perm _).mem_iff.mp mx0⟩
        have s7h := s6.trans (same_ers2 (f := f) (k := k) sm7)
        have s7o : Same H (ers f (ers k H7)) := s5.trans s7h
        have s7 : Same H H7 := (s7o.trans (ers_same _ _)).trans (ers_same _ _)
        have ef7 := sm7 _ _ ef6
        have ek7 := ek6.s sm7
        have pr7 := L2.Paired.mapP pr fun _ _ h => h.s (same_ers2 (f := f) (k := k) sm7)
        generalize hpre : ((rows.take i).map srt).flatten ++ (srt rw0.2).take j = pre at lk mem pr pr7
        have epre : ((rows.take i).map srt).flatten ++ (srt rw0.2).take (j + 1) = pre ++ [x] := by rw [List.take_add_one, exj, ← List.append_assoc, hpre]; rfl
        have prelen : pre.length < 216 := by
          have h1 : (pre ++ [x]).length ≤ (rows.map srt).flatten.length := by
            have h2 : (rows.map srt).flatten = ((rows.take i).map srt).flatten ++ (srt rw0.2 ++ ((rows.drop (i + 1)).map srt).flatten) := by
              rw [← List.append_assoc, ← etk, ← List.flatten_append, ← List.map_append, List.take_append_drop]
            rw [h2, ← epre, List.length_append, List.length_append, List.length_append, List.length_take]
            omega
          rw [(flat_perm rows).length_eq, List.length_append] at h1
          have h3 : [x].length = 1 := rfl
          omega
        have rts : roots S.ln [] (pre ++ [x]) = roots S.ln [] pre ++ (open Classical in if ∃ y ∈ pre, Conn S.ln y x then [] else [x]) := by
          rw [roots_snoc, List.nil_append]
        rw [epre]
        refine ⟨.str x, rfl, .ref k, rfl, k, _, rfl, .inl ek7.sq, rfl, flat_strs kn, _, rfl, ?_⟩
        rw [inV_str]
        by_cases hk0 : x ∈ kn
        · rw [decide_eq_true hk0]
          have hkn := (mem x).mp hk0
          refine iteF ⟨_, _, _, _, _, _, kn, as, rfl, s7h, ef7, ek7, ?_, fun z => ?_, ?_⟩
          · rw [List.length_append]
            omega
          · rw [mem z]
            constructor
            · rintro ⟨y, hy, c⟩
              exact ⟨y, List.mem_append_left _ hy, c⟩
            · rintro ⟨y, hy, c⟩
              rcases List.mem_append.mp hy with h | h
              · exact ⟨y, h, c⟩
              · cases List.mem_singleton.mp h
                obtain ⟨y0, h0, c0⟩ := hkn
                exact ⟨y0, h0, c0.trans c⟩
          · rw [rts, if_pos hkn, List.append_nil]
            exact pr7
        · rw [decide_eq_false hk0]
          have hkn : ¬ ∃ y ∈ pre, Conn S.ln y x := fun h => hk0 ((mem x).mpr h)
          refine iteT ?_
          have hP7 : PlanAt H7 t rows ls := ⟨A', B, s7 _ _ et, ⟨ps, ep, s7 _ _ eA, fun z hz => (hps z hz).s s7⟩, ⟨qs, eq, s7 _ _ eB, fun z hz => (hqs z hz).s s7⟩⟩
          refine ⟨.ref t, rfl, .str x, rfl, t, rows, ls, x, rfl, hP7, few', fun H8 D2 l s8 hD2 eD2 conl llen => ?_⟩
          have nkD : k ≠ D2 := fun e => by
            have ek7' : H7 k = some (.lst (kn.map V.str)) := ek7
            rw [← e, ek7'] at hD2; cases hD2
          have nfD : f ≠ D2 := fun e => by rw [← e, ef7] at hD2; cases hD2
          have ef8 := s8 _ _ ef7
          have ek8 := ek7.s s8
          have s8h := s7h.trans (same_ers2 (f := f) (k := k) s8)
          have pr8 := L2.Paired.mapP pr7 fun _ _ h => h.s (same_ers2 (f := f) (k := k) s8)
          refine ⟨.ref k, rfl, .inl ⟨rfl, _, sqR ek8⟩, .ref D2, rfl, k, D2, _, _, rfl, rfl, ek8, eD2, Nat.le_trans (show _ ≤ 11000000 by rw [List.length_map, List.length_map]; omega) (by decide), ?_⟩
          have e9k : (upd H8 k (.lst (kn.map V.str ++ l.map V.str))) k = some (.lst ((kn ++ l).map V.str)) := by rw [upd_same, List.map_append]
          have e9f : (upd H8 k (.lst (kn.map V.str ++ l.map V.str))) f = _ := (upd_ne nfk).trans ef8
          have e9D : (upd H8 k (.lst (kn.map V.str ++ l.map V.str))) D2 = _ := (upd_ne nkD.symm).trans eD2
          have s89 : ers k (upd H8 k (.lst (kn.map V.str ++ l.map V.str))) = ers k H8 := ers_upd _ _ _
          have s9h : Same (ers f (ers k H5)) (ers f (ers k (upd H8 k (.lst (kn.map V.str ++ l.map V.str))))) := by rw [s89]; exact s8h
          have pr9 : Paired (SheetAt K (ers f (ers k (upd H8 k (.lst (kn.map V.str ++ l.map V.str)))))) as ((roots S.ln [] pre).map (restr S)) := by
            rw [s89]
            exact pr8
          generalize upd H8 k (.lst (kn.map V.str ++ l.map V.str)) = H9 at e9k e9f e9D s9h pr9 ⊢
          have s9o : Same H (ers f (ers k H9)) := s5.trans s9h
          have s9 : Same H H9 := (s9o.trans (ers_same _ _)).trans (ers_same _ _)
          refine ⟨.ref t, rfl, t, _, 0, .ref A', rfl, rfl, .inl (.inl (s9 _ _ et)), atI_nat (j := 0) rfl, A', rfl, ⟨_, sqR (s9 _ _ eA)⟩, fun L hL => ?_⟩
          refine lcG (wk_list (f := fun p : Addr × List Str => V.ref p.1) (sqR (s9 _ _ eA)) (good_ref _ _)) hL (sz64' (by omega)) (fun _ => true) (fun z y G => ∃ t, y = .ref t ∧ LS G t (z.2.filter fun y => decide (y ∈ l))) (fun z y G G' g ⟨t, e, h⟩ => ⟨t, e, h.s g⟩) (fun z hz v H' Nx sN _ ⟨acc, eacc⟩ e _ yes no => ?_) (fun H10 ys s10 eL pp2 => ?_)
          · subst e
            have sN' := sN.trans (ers_same _ _)
            have hz1 := (hps _ hz).s (s9.trans sN')
            have wd := va.wide z.2 (by rw [ep]; exact List.mem_map.mpr ⟨z, hz, rfl⟩)
            refine ⟨rfl, tyes (iteT ⟨.ref z.1, rfl, z.1, rfl, ⟨_, hz1.sq⟩, fun M hM => ?_⟩)⟩
            refine lcG (wk_list (f := V.str) hz1.sq (good_str _)) hM (sz64' (by omega)) (fun y => decide (y ∈ l)) (fun z v _ => v = .str z) (fun _ _ _ _ _ h => h) (fun y hy v H2 Nx2 sN2 _ _ e _ yes2 no2 => ?_) (fun H2 ys2 s4 e4 p4 => ?_)
            · subst e
              refine ⟨rfl, .str y, rfl, .ref D2, rfl, D2, _, rfl, .inl (sqR ((ers_same _ _) _ _ (sN2 _ _ (sN' _ _ e9D)))), rfl, flat_strs l, _, rfl, ?_⟩
              rw [inV_str]
              by_cases m : y ∈ l
              · rw [decide_eq_true m]
                exact iteT ⟨.str y, rfl, yes2 _ _ (decide_eq_true m) (.refl _) rfl⟩
              · rw [decide_eq_false m]
                exact iteF (no2 _ (decide_eq_false m) (.refl _))
            · have nM : M ≠ L := fun e => by rw [e, eacc] at hM; cases hM
              exact yes _ _ rfl (s4.trans (ers_same _ _)) ⟨M, rfl, (ers_ne nM).trans (by rw [e4, paired_eq (f := V.str) p4])⟩
          rw [filter_yes] at pp2
          have s10' : Same H9 H10 := s10.trans (ers_same _ _)
          have hLL : LL H10 L (rows.map fun r => r.filter fun y => decide (y ∈ l)) := by
            have h := (LL.made (gg := fun z : Addr × List Str => z.2.filter fun y => decide (y ∈ l)) (L2.Paired.mapP pp2 fun z y ⟨t, e, h⟩ => ⟨t, e, h.s (ers_same _ _)⟩) eL)
            rw [ep, List.map_map]
            exact h
          have ef10 := s10' _ _ e9f
          have ek10 := s10' _ _ e9k
          refine ⟨.ref f, rfl, .inl ⟨rfl, _, sqR ef10⟩, .ref L, rfl, .ref t, rfl, t, _, 1, .ref B, rfl, rfl, .inl (.inl (s10' _ _ (s9 _ _ et))), atI_nat (j := 1) rfl, B, rfl, ⟨_, sqR (s10' _ _ (s9 _ _ eB))⟩, fun M hM => ?_⟩
          refine lcG (wk_list (f := fun p : Addr × Str × Str => V.ref p.1) (sqR (s10' _ _ (s9 _ _ eB))) (good_ref _ _)) hM (sz64' (by omega)) (fun z => decide (z.2.1 ∈ l)) (fun z y _ => y = .ref z.1) (fun _ _ _ _ _ h => h) (fun z hz v H2 Nx sN _ _ e1 _ yes no => ?_) (fun H11 ys11 s11 eM pM => ?_)
          · subst e1
            have sN' := sN.trans (ers_same _ _)
            have tz := (hqs z hz).s ((s9.trans s10').trans sN')
            refine ⟨rfl, .ref z.1, rfl, z.1, _, 0, .str z.2.1, rfl, rfl, tz.sq, rfl, .ref D2, rfl, D2, _, rfl, .inl (sqR (sN' _ _ (s10' _ _ e9D))), rfl, flat_strs l, _, rfl, ?_⟩
            rw [inV_str]
            by_cases m : z.2.1 ∈ l
            · rw [decide_eq_true m]
              exact iteT ⟨.ref z.1, rfl, yes _ _ (decide_eq_true m) (.refl _) rfl⟩
            · rw [decide_eq_false m]
              exact iteF (no _ (decide_eq_false m) (.refl _))
          have s11' : Same H10 H11 := s11.trans (ers_same _ _)
          have hLT : LT H11 M (ls.filter fun p => decide (p.1 ∈ l)) := by
            have hl := ltp_filt ⟨s10' _ _ (s9 _ _ eB), fun z hz => (hqs z hz).s (s9.trans s10')⟩ s11' eM pM
            refine ⟨_, ?_, hl⟩
            rw [filt_map (fun p => decide (p.1 ∈ l)), ← eq]
          have ef11 := s11' _ _ ef10
          have ek11 := s11' _ _ ek10
          have conlS : ∀ y, y ∈ l ↔ Conn S.ln x y := fun y => (conl y).trans eln.symm
          have eR : mkSh (rows.map fun r => r.filter fun y => decide (y ∈ l)) (ls.filter fun p => decide (p.1 ∈ l)) = restr S x := by
            rw [mkSh_filter, hS, restr_of conlS]
          have vaR : Valid (rows.map fun r => r.filter fun y => decide (y ∈ l)) (ls.filter fun p => decide (p.1 ∈ l)) := valid_sub va _ _ fun p hp e => by
            refine ⟨e, decide_eq_true ((conl _).mpr ?_)⟩
            exact .up ((conl _).mp (of_decide_eq_true e)) hp
          refine mkq2 (hLL.s s11') (.inl hLT) vaR fun y H12 s12 ny hSh => ?_
          rw [eR] at hSh
          have ef12 := s12 _ _ ef11
          have ek12 := s12 _ _ ek11
          have alen : as.length ≤ 216 := by
            have h1 := pr.length
            rw [List.length_map] at h1
            have h3 := roots_len S.ln pre []
            omega
          have sAll : Same (ers f (ers k H9)) (ers f (ers k H12)) := same_ers2 ((s10'.trans s11').trans s12)
          have hSh2 : SheetAt K (ers f (ers k H12)) y (restr S x) := hSh.s (dropL_ers2 (by rw [ef11]; rfl) (by rw [ek11]; rfl))
          have sE : Same (ers f (ers k H12)) (ers f (ers k (upd H12 f (.lst (as.map V.ref ++ [.ref y]))))) := fun b o e => by
            obtain ⟨n1, e2⟩ := ers_some e
            obtain ⟨n2, e2⟩ := ers_some e2
            rw [ers_ne n1, ers_ne n2, upd_ne n1]
            exact e2
          refine ⟨f, _, _, rfl, rfl, ef12, sz64' (by rw [List.length_map]; omega), _, _, _, _, _, _, kn ++ l, as ++ [y], rfl, (s9h.trans sAll).trans sE, ?_, (upd_ne nfk.symm).trans ek12, ?_, fun z => ?_, ?_⟩
          · rw [upd_same, List.map_append]
            rfl
          · rw [List.length_append, List.length_append]
            have h3 : [x].length = 1 := rfl
            omega
          · rw [List.mem_append, mem z]
            constructor
            · rintro (⟨y, hy, c⟩ | h)
              · exact ⟨y, List.mem_append_left _ hy, c⟩
              · exact ⟨x, List.mem_append_right _ (List.mem_singleton.mpr rfl), (conlS z).mp h⟩
            · rintro ⟨y, hy, c⟩
              rcases List.mem_append.mp hy with h | h
              · exact .inl ⟨y, h, c⟩
              · cases List.mem_singleton.mp h
                exact .inr ((conlS z).mpr c)
          · rw [rts, if_neg hkn, List.map_append]
            exact (L2.Paired.mapP pr9 fun _ _ h => h.s (sAll.trans sE)).snoc (hSh2.s sE)
      · rintro σ H6 ⟨y4, y5, y6, y7, y8, y9, kn, as, rfl, s6, ef6, ek6, lk, mem, pr⟩
        rw [List.take_length, ← etk] at lk mem pr
        exact ⟨_, _, _, _, _, _, _, kn, as, rfl, s5.trans s6, ef6, ek6, lk, mem, pr⟩
    · rintro σ H3 ⟨y3, y4, y5, y6, y7, y8, y9, kn, as, rfl, s3, ef3, ek3, lk, mem, pr⟩
      have s3' : Same H H3 := (s3.trans (ers_same _ _)).trans (ers_same _ _)
      rw [List.take_of_length_le (by rw [ep, List.length_map]; exact Nat.le_refl _), ← elv] at pr
      refine ⟨.ref f, rfl, q H3 f as s3' hf ef3 (L2.Paired.mapP pr fun _ _ h => h.s fun b o e => ?_)⟩
      obtain ⟨n1, e⟩ := ers_some e
      exact (ers_ne n1).trans (ers_some e).2
end
end U

set_option linter.all false
set_option maxRecDepth 100000
set_option maxHeartbeats 8000000
/-! The law's walks, sixth part: what a sheet tells. -/
namespace U
open PySem PySem.Spec PyProof.Rows L2 UR
theorem upL_sorted {ln : Ln} (h : UpP ln) (x : Str) : UpS (upL ln x) := by
  unfold upL
  refine List.pairwise_map.mpr (List.Pairwise.imp_of_mem ?_ (List.Pairwise.filter _ h))
  intro a b ha hb r
  have ea : a.1 = x := of_decide_eq_true (List.mem_filter.mp ha).2
  have eb : b.1 = x := of_decide_eq_true (List.mem_filter.mp hb).2
  unfold ple at r
  rw [if_pos (ea.trans eb.symm)] at r
  exact r
theorem dnL_sorted {ln : Ln} (h : UpP ln) (x : Str) : UpS (dnL ln x) := by
  unfold dnL
  refine List.pairwise_map.mpr (List.Pairwise.imp_of_mem ?_ (List.Pairwise.filter _ h))
  intro a b ha hb r
  have ea : a.2 = x := of_decide_eq_true (List.mem_filter.mp ha).2
  have eb : b.2 = x := of_decide_eq_true (List.mem_filter.mp hb).2
  unfold ple at r
  by_cases c : a.1 = b.1
  · rw [c]
    exact (sle_total b.1 b.1).elim id id
  · rw [if_neg c] at r
    exact r
theorem srt_upL (ls : Ln) (x : Str) : srt (upL ls x) = upL (srtL ls) x := by
  rw [← srt_id (upL_sorted (srtL_up ls) x)]
  exact srt_perm_eq (((srtL_perm ls).filter _).map _).symm
theorem srt_dnL (ls : Ln) (x : Str) : srt (dnL ls x) = dnL (srtL ls) x := by
  rw [← srt_id (dnL_sorted (srtL_up ls) x)]
  exact srt_perm_eq (((srtL_perm ls).filter _).map _).symm
/-- level, above, below -/
def encT (i : Nat) (u d : List Str) : PyData := .list [.int i, encS u, encS d]
theorem eqv_T (i : Nat) (u d : List Str) : PyData.eqv (encT i u d) (encT i u d) = true := by
  unfold encT
  simp only [PyData.eqv, PyData.eqvAll, eqv_S]
  simp
theorem shp_T {i : Nat} {u d : List Str} (hu : NmS u) (hd : NmS d) : SeqAt.shaped (encT i u d) = true := by
  have h1 := dep_S u
  have h2 := dep_S d
  have h : (encT i u d).canLay0 = true := by
    unfold encT
    simp only [PyData.canLay0, PyData.canLayAll0, lay_S hu, lay_S hd]
    rfl
  have h3 : (encT i u d).depth ≤ 2 := by
    unfold encT
    simp only [PyData.depth, PyData.depthAll]
    omega
  unfold SeqAt.shaped
  rw [h, decide_eq_true (Nat.le_trans h3 (by decide))]
  rfl
theorem LT.sorted {K : PySem.W.Frag} {H : Hp} {L : Addr} {qs : List (Addr × Str × Str)} (h : LTp H L qs) {so : Addr} (f : H so = none) : LT (upd H so (.lst ((qs.mergeSort fun p q => ple p.2 q.2).map fun p => V.ref p.1))) so (srtL (qs.map (·.2))) := by
  refine ⟨qs.mergeSort fun p q => ple p.2 q.2, (map_sorted (fun z : Addr × Str × Str => z.2) ple qs).symm, upd_same, fun z hz => ?_⟩
  exact (h.2 z ((List.mergeSort_perm _ _).mem_iff.mp hz)).s (same_new f)
section
variable {P : Program} {w : World} {K : PySem.W.Frag} {mg : Str → Option Value} {base : Heap} (T : TX K mg)
include T
def sp_law_tells (K : PySem.W.Frag) : Sp := fun vs H Q _ => ∃ (a R L : Addr) (rows : Lv) (ls : Ln), vs = [.ref a, .ref R, .ref L] ∧ SheetAt K H a (mkSh rows ls) ∧ LL H R rows ∧ LT H L ls ∧ Valid rows ls ∧ ∀ H', Same H H' → Q (.bl true) H'
theorem f_law_tells : Fn P w K mg base 26 (fA K "_law_tells") (sp_law_tells K) [] := by
  obtain ⟨fd, F⟩ := dd_law_tells T
  have nd := sc_law_tells.nd
  refine fnD F (F.bindsN fun _ _ _ _ _ _ us hl => match us, hl with | [_, _, _], _ => rfl) sc_law_tells (fun vs H Q E h => ?_) (fun cdv A outer s H vs Q E hr h => ?_)
  · obtain ⟨a, R, L, rows, ls, rfl, _⟩ := h; rfl
  · obtain ⟨a, R, L, rows, ls, rfl, hS, ⟨ps, ep, eR, hps⟩, ⟨qs, eq, eL, hqs⟩, va, q⟩ := h
    have hu := hu_of hr
    refine ⟨_, PSs.nox ((pss_cons (ps_if (PW.pt (pw_or (pt_cmpR op_ne (pe_callB (call_len_own (f_S_len T) (hr.mono (by decide)) (m_S_len T)) rfl (b_len T) PySem.boot_len (pa_cons (pv 0) pa_nil)) (pe_callB (k_len (K := K) rfl) rfl (b_len T) PySem.boot_len (pa_cons (pv 1) pa_nil)) (nomark _)) (pw_or1 (pt_cmpR (k_neD (K := K) rfl hr.units) (pe_m0 (f_S_lines T) hr (by decide) (cls T) (m_S_lines T) (pv 0)) (pe_callB (k_sortL (K := K) rfl hr.units) rfl (b_sorted T) (by decide +kernel) (pa_cons (pv 2) pa_nil)) (nomark _)))))
  (pss_one (ps_ret pe_bl))
  pss_nil)
  (pss_cons (ps_for PassesOwn.never rfl (k_ienum (K := K) rfl rfl (b_enumerate T) (pa_cons (pv 1) pa_nil)) (k_gtup (K := K) (n := 2) rfl rfl (pgs_cons (pg_name (i := 3) nd rfl (by first | exact Or.inl rfl | exact Or.inr rfl)) (pgs_cons (pg_name (i := 4) nd rfl (by first | exact Or.inl rfl | exact Or.inr rfl)) pgs_nil)))
  (pss_cons (ps_if (pt_cmpR (k_neD (K := K) rfl hr.units) (pe_m (f_S_level T) hr (by decide) (cls T) (m_S_level T) (pv 0) (pa_cons (pv 3) pa_nil)) (pe_callB (k_sortN (K := K) rfl hr.units) rfl (b_sorted T) (by decide +kernel) (pa_cons (pv 4) pa_nil)) (nomark _))
  (pss_one (ps_ret pe_bl))
  pss_nil)
  (pss_one (ps_for PassesOwn.never rfl (k_ilist (K := K) rfl (pv 4)) (pg_name (i := 5) nd rfl (by first | exact Or.inl rfl | exact Or.inr rfl))
  (pss_cons (ps_asg (pe_callB (k_sortN (K := K) rfl hr.units) rfl (b_sorted T) (by decide +kernel) (pa_cons (pe_lc (own := [("_law_low", 7), ("_law_high", 8)]) rfl nd (k_ilist (K := K) rfl (pv 2)) (blkOk_by (by rfl)) (fun _ _ _ _ _ => (k_gtup (K := K) (n := 2) rfl rfl (pgs_cons (pg_name (i := 7) nd rfl (by first | exact Or.inl rfl | exact Or.inr rfl)) (pgs_cons (pg_name (i := 8) nd rfl (by first | exact Or.inl rfl | exact Or.inr rfl)) pgs_nil)))) (fun _ _ _ _ _ => (pts_one (pt_cmpR op_eq (pv 7) (pv 5) (nomark _)))) (fun _ _ _ _ _ => (pv 8))) pa_nil)) (pg_name (i := 6) nd rfl (by first | exact Or.inl rfl | exact Or.inr rfl)))
  (pss_cons (ps_asg (pe_callB (k_sortN (K := K) rfl hr.units) rfl (b_sorted T) (by decide +kernel) (pa_cons (pe_lc (own := [("_law_low", 7), ("_law_high", 8)]) rfl nd (k_ilist (K := K) rfl (pv 2)) (blkOk_by (by rfl)) (fun _ _ _ _ _ => (k_gtup (K := K) (n := 2) rfl rfl (pgs_cons (pg_name (i := 7) nd rfl (by first | exact Or.inl rfl | exact Or.inr rfl)) (pgs_cons (pg_name (i := 8) nd rfl (by first | exact Or.inl rfl | exact Or.inr rfl)) pgs_nil)))) (fun _ _ _ _ _ => (pts_one (pt_cmpR op_eq (pv 8) (pv 5) (nomark _)))) (fun _ _ _ _ _ => (pv 7))) pa_nil)) (pg_name (i := 9) nd rfl (by first | exact Or.inl rfl | exact Or.inr rfl)))
  (pss_one (ps_if (pt_cmpR (k_neD (K := K) rfl hr.units) (pe_lst (pa_cons (pe_m (f_S_level_of T) hr (by decide) (cls T) (m_S_level_of T) (pv 0) (pa_cons (pv 5) pa_nil)) (pa_cons (pe_m (f_S_above T) hr (by decide) (cls T) (m_S_above T) (pv 0) (pa_cons (pv 5) pa_nil)) (pa_cons (pe_m (f_S_below T) hr (by decide) (cls T) (m_S_below T) (pv 0) (pa_cons (pv 5) pa_nil)) pa_nil)))) (pe_lst (pa_cons (pv 3) (pa_cons (pv 6) (pa_cons (pv 9) pa_nil)))) (nomark _))
  (pss_one (ps_ret pe_bl))
  pss_nil))))))))
  (pss_cons (ps_for PassesOwn.never rfl (pi_range1 rfl (b_range T) (pa_cons (pe_op op_sub (pe_callB (k_len (K := K) rfl) rfl (b_len T) PySem.boot_len (pa_cons (pv 1) pa_nil)) pe_int) pa_nil)) (pg_name (i := 3) nd rfl (by first | exact Or.inl rfl | exact Or.inr rfl))
  (pss_one (ps_if (pt_cmpR (k_neD (K := K) rfl hr.units) (pe_m (f_S_gap T) hr (by decide) (cls T) (m_S_gap T) (pv 0) (pa_cons (pv 3) pa_nil)) (pe_callB (k_sortL (K := K) rfl hr.units) rfl (b_sorted T) (by decide +kernel) (pa_cons (pe_lc (own := [("_law_one", 10)]) (g := gName 10) rfl nd (k_ilist (K := K) rfl (pv 2)) (blkOk_by (by rfl)) (fun _ _ _ _ _ => (pg_name (i := 10) nd rfl (by first | exact Or.inl rfl | exact Or.inr rfl))) (fun _ _ _ _ _ => (pts_one (pt_cmpR (k_in (K := K) rfl) (pe_ix (k_ixt (K := K) rfl) (pv 10) pe_int (fun _ _ => rfl)) (pe_ix (k_ixl (K := K) rfl) (pv 1) (pv 3) (fun _ _ => rfl)) (by with_unfolding_all rfl)))) (fun _ _ _ _ _ => (pv 10))) pa_nil)) (nomark _))
  (pss_one (ps_ret pe_bl))
  pss_nil)))
  (pss_one (ps_ret (pe_callB (k_all (K := K) rfl rfl) rfl (b_all T) (by decide +kernel) (pa_cons (pe_lc (own := [("_law_one", 10)]) (g := gName 10) (tt := tYes) rfl nd (k_ilist (K := K) rfl (pv 2)) (blkOk_by (by rfl)) (fun _ _ _ _ _ => (pg_name (i := 10) nd rfl (by first | exact Or.inl rfl | exact Or.inr rfl))) (fun _ _ _ _ _ => pts_nil) (fun _ _ _ _ _ => (pe_cmpR (op_in_own (f_S_contains T) (hr.mono (by decide)) (m_S_contains T)) (pv 10) (pv 0) (by with_unfolding_all rfl)))) pa_nil)))))))), ?_⟩
    have tall := va.tall
    have lrows : rows.length = ps.length := by rw [ep, List.length_map]
    rw [lrows] at tall
    have few := va.few
    rw [eq, List.length_map] at few
    have vS := va.srt
    have hlv : (mkSh rows ls).lv = rows.map srt := rfl
    have hln : (mkSh rows ls).ln = srtL ls := rfl
    generalize mkSh rows ls = S at hS hlv hln
    have nS : NmLn S.ln := by rw [hln]; exact vS.nmLn
    have ndS : S.lv.flatten.Nodup := by rw [hlv]; exact vS.nd
    -- as many levels, the lines
    refine ⟨.ref a, rfl, lenq hS (by rw [hlv, List.length_map]; omega) ⟨.ref R, rfl, R, _, rfl, .inl (sqR eR), rfl, false, ?_, iteF ?_⟩⟩
    · rw [hlv, List.length_map, List.length_map, lrows]
      rw [decide_eq_true rfl]
      rfl
    obtain ⟨dx, A', B', D', E', F', G', kf, kg, ex, _⟩ := id hS
    refine ⟨.ref a, rfl, a, dx, _, rfl, ex, rfl, a, S, rfl, hS, fun H1 p1 s1 f1 l1 => ?_⟩
    refine ⟨.ref L, rfl, L, qs, rfl, sqR (s1 _ _ eL), fun z hz => ((hqs z hz).s s1).sq, fun so hso => ?_⟩
    have hso2 := LT.sorted (K := K) ⟨s1 _ _ eL, fun z hz => (hqs z hz).s s1⟩ hso
    rw [← eq] at hso2
    refine ⟨encLn S.ln, encLn (srtL ls), LT.dp (l1.s (same_new hso)), LT.dp hso2, shp_Ln nS, by rw [← hln]; exact shp_Ln nS, false, by rw [eqv_Ln, hln, decide_eq_true rfl]; rfl, iteF ?_⟩
    have s2 := s1.trans (same_new hso (o := .lst ((qs.mergeSort fun p q => ple p.2 q.2).map fun p => V.ref p.1)))
    generalize upd H1 so (.lst ((qs.mergeSort fun p q => ple p.2 q.2).map fun p => V.ref p.1)) = H2 at s2 ⊢
    clear hso2 hso l1 f1 s1
    -- level by level
    refine ⟨.ref R, rfl, R, _, rfl, sqR (s2 _ _ eR), ?_⟩
    refine forG (wk_enum (K := K) (H1 := H) (f := fun p : Addr × List Str => V.ref p.1) (sqR eR) (good_ref _ _)) (fun i σ H' => ∃ y3 y4 y5 y6 y7 y8 y9 y10 : Option V, σ = [some (.ref a), some (.ref R), some (.ref L), y3, y4, y5, y6, y7, y8, y9, y10] ∧ Same H H')
      ⟨_, _, _, _, _, _, _, _, rfl, s2⟩ (fun i σ H' ⟨_, _, _, _, _, _, _, _, _, s⟩ => s.g) ?_ ?_
    · rintro i z v σ H3 H4 ez ⟨y3, y4, y5, y6, y7, y8, y9, y10, rfl, s3⟩ sm ⟨t, rfl, et⟩
      have s4 := s3.trans sm
      rw [List.getElem?_zipIdx] at ez
      obtain ⟨z0, ez0, rfl⟩ : ∃ z0, ps[i]? = some z0 ∧ z = (z0, i) := by
        rcases e : ps[i]? with _ | z0
        · rw [e] at ez; cases ez
        · rw [e] at ez
          exact ⟨z0, rfl, by simpa using ez.symm⟩
      have mz := List.mem_of_getElem? ez0
      have erow : rows[i]? = some z0.2 := by rw [ep, List.getElem?_map, ez0]; rfl
      have elv : S.lv[i]? = some (srt z0.2) := by rw [hlv, List.getElem?_map, erow]; rfl
      refine ⟨t, _, rfl, .inl (.inl et), rfl, _, _, rfl, _, _, rfl, rfl, ?_⟩
      refine ⟨.ref a, rfl, a, dx, _, rfl, s4 _ _ ex, rfl, .int i, rfl, a, S, i, srt z0.2, rfl, hS.s s4, by rw [hlv, List.length_map]; omega, elv, fun H5 p5 s5 f5 l5 => ?_⟩
      have s5o := s4.trans s5
      refine ⟨.ref z0.1, rfl, z0.1, z0.2, rfl, ((hps z0 mz).s s5o).sq, fun _ _ => True.intro, fun so hso => ?_⟩
      have nmz : NmS z0.2 := fun x hx => va.names _ (List.mem_of_getElem? erow) x hx
      have nms : NmS (srt z0.2) := fun x hx => nmz x ((srt_perm _).mem_iff.mp hx)
      refine ⟨encS (srt z0.2), encS (srt z0.2), LS.dp (l5.s (same_new hso)), LS.dp upd_same, shp_S nms, shp_S nms, false, by rw [eqv_S, decide_eq_true rfl]; rfl, iteF ?_⟩
      have s6 := s5o.trans (same_new hso (o := .lst ((z0.2.mergeSort sle).map V.str)))
      generalize upd H5 so (.lst ((z0.2.mergeSort sle).map V.str)) = H6 at s6 ⊢
      refine ⟨.ref z0.1, rfl, z0.1, rfl, ⟨_, ((hps z0 mz).s s6).sq⟩, ?_⟩
      refine forG (wk_list (K := K) (H1 := H) (f := V.str) (hps z0 mz).sq (good_str _)) (fun j σ H' => ∃ y5 y6 y7 y8 y9 y10 : Option V, σ = [some (.ref a), some (.ref R), some (.ref L), some (.int i), some (.ref z0.1), y5, y6, y7, y8, y9, y10] ∧ Same H H')
        ⟨y5, y6, y7, y8, y9, y10, rfl, s6⟩ (fun i σ H' ⟨_, _, _, _, _, _, _, s⟩ => s.g) ?_ ?_
      · rintro j x v σ H7 H8 ex0 ⟨y5, y6, y7, y8, y9, y10, rfl, s7⟩ sm8 rfl
        have mx := List.mem_of_getElem? ex0
        have mxS : x ∈ srt z0.2 := (srt_perm _).mem_iff.mpr mx
        have mxF : x ∈ S.lv.flatten := List.mem_flatten.mpr ⟨_, List.mem_of_getElem? elv, mxS⟩
        have s8 := s7.trans sm8
        -- up
        refine ⟨.ref L, rfl, L, rfl, ⟨_, sqR (s8 _ _ eL)⟩, fun D hD => ?_⟩
        refine lcG (wk_list (K := K) (f := fun p : Addr × Str × Str => V.ref p.1) (sqR (s8 _ _ eL)) (good_ref _ _)) hD (sz64' (by omega)) (fun z => decide (z.2.1 = x)) (fun z y _ => y = .str z.2.2) (fun _ _ _ _ _ h => h) (fun z hz v H2 Nx sN _ _ e1 _ yes no => ?_) (fun H9 ys9 s9 eD pD => ?_)
        · subst e1
          have tz := (hqs z hz).s (s8.trans (sN.trans (ers_same _ _)))
          refine ⟨z.1, _, rfl, .inl (.inl tz), rfl, _, _, rfl, _, _, rfl, rfl, rfl, .str z.2.1, rfl, .str x, rfl, rfl, _, rfl, ?_⟩
          have hd : (decide (V.str z.2.1 = V.str x)) = decide (z.2.1 = x) := by simp
          rw [hd]
          by_cases m : z.2.1 = x
          · rw [decide_eq_true m]
            exact iteT ⟨.str z.2.2, rfl, yes _ _ (decide_eq_true m) (.refl _) rfl⟩
          · rw [decide_eq_false m]
            exact iteF (no _ (decide_eq_false m) (.refl _))
        have s9' := s8.trans (s9.trans (ers_same _ _))
        have hD9 : LS H9 D (upL ls x) := by
          show H9 D = _
          rw [eD, paired_eq (f := fun z : Addr × Str × Str => V.str z.2.2) pD]
          unfold upL
          rw [eq, ← filt_map (fun p => decide (p.1 = x)), List.map_map, List.map_map]
          rfl
        refine ⟨D, upL ls x, rfl, hD9.sq, fun _ _ => True.intro, fun u hu' => ?_⟩
        have s10 := s9'.trans (same_new hu' (o := .lst (((upL ls x).mergeSort sle).map V.str)))
        have eu : LS (upd H9 u (.lst (((upL ls x).mergeSort sle).map V.str))) u (upL S.ln x) := by rw [hln, ← srt_upL]; exact upd_same
        generalize upd H9 u (.lst (((upL ls x).mergeSort sle).map V.str)) = H10 at s10 eu ⊢
        -- down
        refine ⟨.ref L, rfl, L, rfl, ⟨_, sqR (s10 _ _ eL)⟩, fun D2 hD2 => ?_⟩
        refine lcG (wk_list (K := K) (f := fun p : Addr × Str × Str => V.ref p.1) (sqR (s10 _ _ eL)) (good_ref _ _)) hD2 (sz64' (by omega)) (fun z => decide (z.2.2 = x)) (fun z y _ => y = .str z.2.1) (fun _ _ _ _ _ h => h) (fun z hz v H2 Nx sN _ _ e1 _ yes no => ?_) (fun H11 ys11 s11 eD2 pD2 => ?_)
        · subst e1
          have tz := (hqs z hz).s (s10.trans (sN.trans (ers_same _ _)))
          refine ⟨z.1, _, rfl, .inl (.inl tz), rfl, _, _, rfl, _, _, rfl, rfl, rfl, .str z.2.2, rfl, .str x, rfl, rfl, _, rfl, ?_⟩
          have hd : (decide (V.str z.2.2 = V.str x)) = decide (z.2.2 = x) := by simp
          rw [hd]
          by_cases m : z.2.2 = x
          · rw [decide_eq_true m]
            exact iteT ⟨.str z.2.1, rfl, yes _ _ (decide_eq_true m) (.refl _) rfl⟩
          · rw [decide_eq_false m]
            exact iteF (no _ (decide_eq_false m) (.refl _))
        have s11h := s11.trans (ers_same _ _)
        have s11' := s10.trans s11h
        have hD11 : LS H11 D2 (dnL ls x) := by
          show H11 D2 = _
          rw [eD2, paired_eq (f := fun z : Addr × Str × Str => V.str z.2.1) pD2]
          unfold dnL
          rw [eq, ← filt_map (fun p => decide (p.2 = x)), List.map_map, List.map_map]
          rfl
        refine ⟨D2, dnL ls x, rfl, hD11.sq, fun _ _ => True.intro, fun d hd' => ?_⟩
        have s12h := same_new hd' (o := .lst (((dnL ls x).mergeSort sle).map V.str))
        have s12 := s11'.trans s12h
        have ed : LS (upd H11 d (.lst (((dnL ls x).mergeSort sle).map V.str))) d (dnL S.ln x) := by rw [hln, ← srt_dnL]; exact upd_same
        have eu12 := (eu.s s11h).s s12h
        generalize upd H11 d (.lst (((dnL ls x).mergeSort sle).map V.str)) = H12 at s12 ed eu12 ⊢
        -- what is told
        refine ⟨.ref a, rfl, a, dx, _, rfl, s12 _ _ ex, rfl, .str x, rfl, a, S, x, i, srt z0.2, rfl, hS.s s12, ndS, elv, mxS, ?_⟩
        refine ⟨.ref a, rfl, a, dx, _, rfl, s12 _ _ ex, rfl, .str x, rfl, a, S, x, rfl, hS.s s12, ndS, mxF, fun H13 p13 s13 f13 l13 => ?_⟩
        refine ⟨.ref a, rfl, a, dx, _, rfl, s13 _ _ (s12 _ _ ex), rfl, .str x, rfl, a, S, x, rfl, (hS.s s12).s s13, ndS, mxF, fun H14 p14 s14 f14 l14 => ?_⟩
        refine ⟨by show 3 ≤ sizeLine; decide, fun M hM => ?_⟩
        have sM := same_new hM (o := .lst [.int i, .ref p13, .ref p14])
        have eM : (upd H14 M (.lst [.int i, .ref p13, .ref p14])) M = some (.lst [.int i, .ref p13, .ref p14]) := upd_same
        generalize upd H14 M (.lst [.int i, .ref p13, .ref p14]) = H15 at sM eM ⊢
        refine ⟨.int i, rfl, .ref u, rfl, .ref d, rfl, by show 3 ≤ sizeLine; decide, fun M2 hM2 => ?_⟩
        have sM2 := same_new hM2 (o := .lst [.int i, .ref u, .ref d])
        have s15 := (s13.trans s14).trans (sM.trans sM2)
        have nu : NmS (upL S.ln x) := fun y hy => (nS _ (mem_upL.mp hy)).2
        have ndd : NmS (dnL S.ln x) := fun y hy => (nS _ (mem_dnL.mp hy)).1
        refine ⟨encT i (upL S.ln x) (dnL S.ln x), encT i (upL S.ln x) (dnL S.ln x), .lst (sqR (sM2 _ _ eM)) (.cons (.int _) (.cons (LS.dp (l13.s (s14.trans (sM.trans sM2)))) (.cons (LS.dp (l14.s (sM.trans sM2))) .nil))), .lst (sqR upd_same) (.cons (.int _) (.cons (LS.dp (eu12.s s15)) (.cons (LS.dp (ed.s s15)) .nil))), shp_T nu ndd, shp_T nu ndd, false, by rw [eqv_T]; rfl, iteF ?_⟩
        exact ⟨_, _, _, _, _, _, rfl, s12.trans s15⟩
      · rintro σ H7 ⟨y5, y6, y7, y8, y9, y10, rfl, s7⟩
        exact ⟨_, _, _, _, _, _, _, _, rfl, s7⟩
    · rintro σ H3 ⟨y3, y4, y5, y6, y7, y8, y9, y10, rfl, s3⟩
      have pos : 0 < ps.length := by
        have := List.length_pos_iff.mpr va.ne
        omega
      refine ⟨.ref R, rfl, R, _, rfl, .inl (sqR (s3 _ _ eR)), _, 1, rfl, rfl, (((ps.map fun p => V.ref p.1).length : Nat) : Int) - 1, rfl, by rw [List.length_map]; omega, by rw [List.length_map]; omega, ?_⟩
      refine forG (Hb := H) (bs := List.range ((((ps.map fun p => V.ref p.1).length : Nat) : Int) - 1).toNat) (wk_range 0 _) (fun i σ H' => ∃ y3 y4 y5 y6 y7 y8 y9 y10 : Option V, σ = [some (.ref a), some (.ref R), some (.ref L), y3, y4, y5, y6, y7, y8, y9, y10] ∧ Same H H')
        ⟨y3, y4, y5, y6, y7, y8, y9, y10, rfl, s3⟩ (fun i σ H' ⟨_, _, _, _, _, _, _, _, _, s⟩ => s.g) ?_ ?_
      · rintro i b v σ H4 H5 eb ⟨y3, y4, y5, y6, y7, y8, y9, y10, rfl, s4⟩ sm rfl
        have hi : b + 1 < ps.length := by
          have h1 := (List.getElem?_eq_some_iff.mp eb)
          obtain ⟨h1, h2⟩ := h1
          rw [List.getElem_range] at h2
          rw [List.length_range, List.length_map] at h1
          omega
        have s5 := s4.trans sm
        have ez0 : ps[b]? = some ps[b] := List.getElem?_eq_getElem (by omega)
        generalize ps[b] = z0 at ez0
        have mz := List.mem_of_getElem? ez0
        have erow : rows[b]? = some z0.2 := by rw [ep, List.getElem?_map, ez0]; rfl
        have elv : S.lv[b]? = some (srt z0.2) := by rw [hlv, List.getElem?_map, erow]; rfl
        refine ⟨.ref a, rfl, a, dx, _, rfl, s5 _ _ ex, rfl, .int (0 + (b : Int)), rfl, a, S, b, srt z0.2, by rw [Int.zero_add]; rfl, hS.s s5, by rw [hlv, hln]; exact vS, elv, by rw [hlv, List.length_map]; omega, fun H6 p6 s6 f6 l6 => ?_⟩
        have s6' := s5.trans s6
        refine ⟨.ref L, rfl, L, rfl, ⟨_, sqR (s6' _ _ eL)⟩, fun D hD => ?_⟩
        refine lcG (wk_list (K := K) (f := fun p : Addr × Str × Str => V.ref p.1) (sqR (s6' _ _ eL)) (good_ref _ _)) hD (sz64' (by omega)) (fun z => decide (z.2.1 ∈ z0.2)) (fun z y _ => y = .ref z.1) (fun _ _ _ _ _ h => h) (fun z hz v H2 Nx sN _ _ e1 _ yes no => ?_) (fun H9 ys9 s9 eD pD => ?_)
        · subst e1
          have sN' := s6'.trans (sN.trans (ers_same _ _))
          have tz := (hqs z hz).s sN'
          refine ⟨rfl, .ref z.1, rfl, z.1, _, 0, .str z.2.1, rfl, rfl, tz.sq, rfl, .ref R, rfl, .int (0 + (b : Int)), rfl, R, _, 0 + (b : Int), .ref z0.1, rfl, rfl, sqR (sN' _ _ eR), by rw [Int.zero_add]; exact atI_nat (by rw [List.getElem?_map, ez0]; rfl), z0.1, _, rfl, .inl ((hps z0 mz).s sN').sq, rfl, flat_strs z0.2, _, rfl, ?_⟩
          rw [inV_str]
          by_cases m : z.2.1 ∈ z0.2
          · rw [decide_eq_true m]
            exact iteT ⟨.ref z.1, rfl, yes _ _ (decide_eq_true m) (.refl _) rfl⟩
          · rw [decide_eq_false m]
            exact iteF (no _ (decide_eq_false m) (.refl _))
        have s9h := s9.trans (ers_same _ _)
        have hl := ltp_filt ⟨s6' _ _ eL, fun z hz => (hqs z hz).s s6'⟩ s9h eD pD
        refine ⟨D, _, rfl, sqR hl.1, fun z hz => (hl.2 z hz).sq, fun so hso => ?_⟩
        have hso2 := LT.sorted (K := K) hl hso
        rw [filt_map (fun p => decide (p.1 ∈ z0.2)), ← eq, srtL_filter, ← hln] at hso2
        have efl : (S.ln.filter fun p => decide (p.1 ∈ z0.2)) = S.ln.filter fun l => decide (l.1 ∈ srt z0.2) := List.filter_congr fun p _ => by rw [decide_eq_decide]; exact (srt_perm _).mem_iff.symm
        rw [efl] at hso2
        have nmf : NmLn (S.ln.filter fun l => decide (l.1 ∈ srt z0.2)) := fun p hp => nS p (List.mem_filter.mp hp).1
        refine ⟨_, _, LT.dp ((l6.s s9h).s (same_new hso)), LT.dp hso2, shp_Ln nmf, shp_Ln nmf, false, by rw [eqv_Ln, decide_eq_true rfl]; rfl, iteF ?_⟩
        exact ⟨_, _, _, _, _, _, _, _, rfl, (s6'.trans s9h).trans (same_new hso)⟩
      · rintro σ H4 ⟨y3, y4, y5, y6, y7, y8, y9, y10, rfl, s4⟩
        refine ⟨.ref L, rfl, L, rfl, ⟨_, sqR (s4 _ _ eL)⟩, fun D hD => ?_⟩
        refine lcG (wk_list (K := K) (f := fun p : Addr × Str × Str => V.ref p.1) (sqR (s4 _ _ eL)) (good_ref _ _)) hD (sz64' (by omega)) (fun _ => true) (fun z y _ => y = .bl true) (fun _ _ _ _ _ h => h) (fun z hz v H2 Nx sN _ _ e1 _ yes no => ?_) (fun H9 ys9 s9 eD pD => ?_)
        · subst e1
          have sN' := s4.trans (sN.trans (ers_same _ _))
          have tz := (hqs z hz).s sN'
          have mS : z.2 ∈ S.ln := by
            rw [hln]
            refine mem_srtL.mpr ?_
            rw [eq]
            exact List.mem_map.mpr ⟨z, hz, rfl⟩
          exact ⟨rfl, tyes (iteT ⟨.ref z.1, rfl, .ref a, rfl, a, rfl, (hS.s sN').ins, a, S, hS.s sN', ndS, nS, .inr ⟨z.1, z.2, rfl, tz, nS _ mS, true, blT mS, yes _ _ rfl (.refl _) rfl⟩⟩)⟩
        · rw [filter_yes] at pD
          exact all_true eD pD (q _ (s4.trans (s9.trans (ers_same _ _))))
end
end U

set_option linter.all false
set_option maxRecDepth 100000
set_option maxHeartbeats 8000000
/-! Lists of sheets, told equal. -/
namespace U
open PySem PySem.Spec PyProof.Rows L2 UR
def RS (K : PySem.W.Frag) (a b : Addr) (H : Hp) : Prop := ∃ S, SheetAt K H a S ∧ SheetAt K H b S ∧ NmLv S.lv ∧ NmLn S.ln
theorem mon_sheets {K : PySem.W.Frag} {C : Addr} : Mon (DIns C (RS K)) := mon_ins fun _ _ _ _ e ⟨S, h1, h2, h3, h4⟩ => ⟨S, h1.s e, h2.s e, h3, h4⟩
section
variable {K : PySem.W.Frag} {mg : Str → Option Value}
theorem eq_sheets {X : Cx} (T : TX K mg) (hK : X.K = K) (hM : X.mg = mg) : EqG X 1 (DIns (C K) (RS K)) := by
  subst hK hM
  obtain ⟨fd, ps, ds, F, hb, hd⟩ := (f_S_eq (P := X.prog) (w := X.w) (base := X.base) T).ex
  have : ds = [] := by cases hd; rfl
  subst this
  have hm := m_S_eq T
  refine eqG_ins (F.imp fun vs H Q E ⟨a, b, hv, ⟨S, h1, h2, h3, h4⟩, q⟩ => ?_) hm.at_ hm.fn hb (pass0 (X := X))
  exact ⟨a, b, S, S, hv, h1, h2, ⟨h3, h4⟩, ⟨h3, h4⟩, by rw [decide_eq_true rfl]; exact q H Ext.rfl'⟩
theorem rc_sheets {X : Cx} (T : TX K mg) (hK : X.K = K) (hM : X.mg = mg) : RcG X 2 (DList (DIns (C K) (RS K))) := rcG_list mon_sheets (eq_sheets T hK hM)
end
end U

set_option linter.all false
set_option maxRecDepth 100000
set_option maxHeartbeats 2000000
/-! Parts of parts, parts put together. -/
namespace U
open PySem PySem.Spec PyProof.Rows L2 UR
theorem flat_filter (f : Str → Bool) : ∀ lv : Lv, (lv.map fun r => r.filter f).flatten = lv.flatten.filter f
  | [] => rfl
  | r :: lv => by rw [List.map_cons, List.flatten_cons, List.flatten_cons, List.filter_append, flat_filter f lv]
theorem roots_sub (ln : Ln) : ∀ (l seen : List Str), (roots ln seen l).Sublist l
  | [], _ => .slnil
  | x :: l, seen => by
    unfold roots
    split
    · exact (roots_sub ln l _).cons _
    · exact (roots_sub ln l _).cons_cons _
theorem roots_none {ln : Ln} : ∀ {l seen : List Str}, (∀ y ∈ l, ∃ z ∈ seen, Conn ln z y) → roots ln seen l = []
  | [], _, _ => by unfold roots; rfl
  | x :: l, seen, h => by
    unfold roots
    rw [if_pos (h x List.mem_cons_self)]
    exact roots_none fun y hy => let ⟨z, m, c⟩ := h y (List.mem_cons_of_mem _ hy); ⟨z, List.mem_append_left _ m, c⟩
theorem roots_one {ln : Ln} {x : Str} {l : List Str} (h : ∀ y ∈ l, Conn ln x y) : roots ln [] (x :: l) = [x] := by
  unfold roots
  rw [if_neg (fun ⟨_, m, _⟩ => by cases m), roots_none fun y hy => ⟨x, List.mem_append_right _ List.mem_cons_self, h y hy⟩]
/-- no earlier one, no two of one part -/
theorem roots_free {ln : Ln} : ∀ {l seen : List Str} {x y : Str}, x ∈ roots ln seen l → y ∈ seen → ¬ Conn ln y x
  | a :: l, seen, x, y, hx, hy, c => by
    unfold roots at hx
    split at hx
    · exact roots_free hx (List.mem_append_left _ hy) c
    · rename_i n
      rcases List.mem_cons.mp hx with rfl | hx
      · exact n ⟨y, hy, c⟩
      · exact roots_free hx (List.mem_append_left _ hy) c
  | [], _, _, _, hx, _, _ => by
    unfold roots at hx
    cases hx
theorem roots_apart {ln : Ln} : ∀ (l seen : List Str), (roots ln seen l).Pairwise fun x y => ¬ Conn ln x y
  | [], _ => by unfold roots; exact .nil
  | a :: l, seen => by
    unfold roots
    split
    · exact roots_apart l _
    · exact .cons (fun y hy => roots_free hy (List.mem_append_right _ List.mem_cons_self)) (roots_apart l _)
/-- each hangs with a root, or with what was seen -/
theorem roots_all {ln : Ln} : ∀ {l seen : List Str} {y : Str}, y ∈ l → (∃ x ∈ roots ln seen l, Conn ln x y) ∨ ∃ x ∈ seen, Conn ln x y
  | a :: l, seen, y, hy => by
    unfold roots
    rcases List.mem_cons.mp hy with rfl | hy
    · split
      · rename_i h; exact .inr h
      · exact .inl ⟨y, List.mem_cons_self, .refl _⟩
    · have ih := roots_all (ln := ln) (l := l) (seen := seen ++ [a]) hy
      split
      · rename_i h
        rcases ih with ih | ⟨x, m, c⟩
        · exact .inl ih
        · rcases List.mem_append.mp m with m | m
          · exact .inr ⟨x, m, c⟩
          · cases List.mem_singleton.mp m
            obtain ⟨z, hz, cz⟩ := h
            exact .inr ⟨z, hz, cz.trans c⟩
      · rcases ih with ⟨x, m, c⟩ | ⟨x, m, c⟩
        · exact .inl ⟨x, List.mem_cons_of_mem _ m, c⟩
        · rcases List.mem_append.mp m with m | m
          · exact .inr ⟨x, m, c⟩
          · cases List.mem_singleton.mp m
            exact .inl ⟨_, List.mem_cons_self, c⟩
/-- some of a sheet -/
def subS (S : Sh) (f : Str → Bool) : Sh := ⟨S.lv.map fun r => r.filter f, S.ln.filter fun p => f p.1⟩
open Classical in
theorem restr_sub (S : Sh) (x : Str) : restr S x = subS S fun y => decide (Conn S.ln x y) := rfl
theorem subS_congr {S : Sh} {f g : Str → Bool} (v : Valid S.lv S.ln) (h : ∀ y ∈ S.lv.flatten, f y = g y) : subS S f = subS S g := by
  unfold subS
  congr 1
  · refine List.map_congr_left fun r hr => List.filter_congr fun y hy => h y (List.mem_flatten.mpr ⟨r, hr, hy⟩)
  · exact List.filter_congr fun p hp => h _ (ln_nodes v hp).1
theorem subS_all {S : Sh} (v : Valid S.lv S.ln) {f : Str → Bool} (h : ∀ y ∈ S.lv.flatten, f y = true) : subS S f = S := by
  rw [subS_congr v (g := fun _ => true) h]
  unfold subS
  rw [filter_yes]
  have : (S.lv.map fun r => r.filter fun _ => true) = S.lv := map_id_of fun r _ => filter_yes r
  rw [this]
open Classical in
theorem conn_restr {S : Sh} {x y : Str} (h : Conn S.ln x y) : Conn (restr S x).ln x y := by
  induction h with
  | refl => exact .refl _
  | up h m ih => exact .up ih (List.mem_filter.mpr ⟨m, decide_eq_true h⟩)
  | dn h m ih => exact .dn ih (List.mem_filter.mpr ⟨m, decide_eq_true (.dn h m)⟩)
open Classical in
theorem restr_ln {S : Sh} {x : Str} {p : Str × Str} : p ∈ (restr S x).ln ↔ p ∈ S.ln ∧ Conn S.ln x p.1 := by
  unfold restr
  rw [List.mem_filter, decide_eq_true_eq]
open Classical in
theorem restr_nodes {S : Sh} {x y : Str} : y ∈ (restr S x).lv.flatten ↔ y ∈ S.lv.flatten ∧ Conn S.ln x y := by
  unfold restr
  rw [flat_filter, List.mem_filter, decide_eq_true_eq]
open Classical in
/-- a part has one part, itself -/
theorem parts_part {S : Sh} (v : Valid S.lv S.ln) {x : Str} (hx : x ∈ S.lv.flatten) : partsOf (restr S x) = [restr S x] := by
  have all : ∀ y ∈ (restr S x).lv.flatten, ∀ z ∈ (restr S x).lv.flatten, Conn (restr S x).ln y z := fun y hy z hz =>
    (conn_restr (restr_nodes.mp hy).2).symm.trans (conn_restr (restr_nodes.mp hz).2)
  have vr := restr_valid v x
  have hxr : x ∈ (restr S x).lv.flatten := restr_nodes.mpr ⟨hx, .refl _⟩
  unfold partsOf
  generalize restr S x = R at all vr hxr
  rcases e : R.lv.flatten with _ | ⟨a, l⟩
  · rw [e] at hxr; cases hxr
  · rw [roots_one fun y hy => all a (by rw [e]; exact List.mem_cons_self) y (by rw [e]; exact List.mem_cons_of_mem _ hy), List.map_cons, List.map_nil, restr_sub]
    rw [subS_all vr fun y hy => decide_eq_true (all a (by rw [e]; exact List.mem_cons_self) y hy)]
theorem part_root {S : Sh} {R : Sh} (h : R ∈ partsOf S) : ∃ x ∈ roots S.ln [] S.lv.flatten, x ∈ S.lv.flatten ∧ R = restr S x := by
  obtain ⟨x, m, rfl⟩ := List.mem_map.mp h
  exact ⟨x, m, (roots_sub _ _ _).mem m, rfl⟩
theorem parts_few {S : Sh} (v : Valid S.lv S.ln) : (partsOf S).length ≤ 216 := by
  unfold partsOf
  rw [List.length_map]
  exact Nat.le_trans (roots_len _ _ _) v.flat
open Classical in
/-- the plain data of a part -/
theorem part_plain {rows : Lv} {ls : Ln} (v : Valid rows ls) {R : Sh} (h : R ∈ partsOf (mkSh rows ls)) :
    R = mkSh (rows.map fun r => r.filter fun y => decide (y ∈ R.lv.flatten)) (ls.filter fun p => decide (p.1 ∈ R.lv.flatten)) ∧ Valid (rows.map fun r => r.filter fun y => decide (y ∈ R.lv.flatten)) (ls.filter fun p => decide (p.1 ∈ R.lv.flatten)) := by
  obtain ⟨x, _, hx, rfl⟩ := part_root h
  have vS := v.srt
  have e1 : (restr (mkSh rows ls) x) = subS (mkSh rows ls) fun y => decide (y ∈ (restr (mkSh rows ls) x).lv.flatten) := by
    rw [restr_sub]
    refine subS_congr vS fun y hy => ?_
    rw [decide_eq_decide, ← restr_sub, restr_nodes]
    exact ⟨fun c => ⟨hy, c⟩, fun c => c.2⟩
  constructor
  · rw [mkSh_filter]
    conv => lhs; rw [e1]
    rfl
  · refine valid_sub v _ _ fun p hp e => ?_
    have m := restr_nodes.mp (of_decide_eq_true e)
    have hpS : p ∈ (mkSh rows ls).ln := mem_srtL.mpr hp
    exact ⟨e, decide_eq_true (restr_nodes.mpr ⟨(ln_nodes (lv := (mkSh rows ls).lv) vS hpS).2, .up m.2 hpS⟩)⟩
end U

set_option linter.all false
set_option maxRecDepth 100000
set_option maxHeartbeats 8000000
/-! The law's walks, eighth part: what the sheet tells of its parts. -/
namespace U
open PySem PySem.Spec PyProof.Rows L2 UR
theorem Up.names {S : Sh} (v : Valid S.lv S.ln) : NmLv S.lv ∧ NmLn S.ln := ⟨v.nmLv, v.nmLn⟩
theorem parts_valid {S : Sh} (v : Valid S.lv S.ln) {R : Sh} (h : R ∈ partsOf S) : Valid R.lv R.ln := by
  obtain ⟨x, _, _, rfl⟩ := part_root h
  exact restr_valid v x
theorem parts_up {S : Sh} (u : Up S) {R : Sh} (h : R ∈ partsOf S) : Up R := by
  obtain ⟨x, _, _, rfl⟩ := part_root h
  exact restr_up u x
theorem parts_self {S : Sh} (v : Valid S.lv S.ln) {R : Sh} (h : R ∈ partsOf S) : partsOf R = [R] := by
  obtain ⟨x, _, m, rfl⟩ := part_root h
  exact parts_part v m
theorem parts_tall {S R : Sh} (h : R ∈ partsOf S) : R.lv.length = S.lv.length := by
  obtain ⟨x, _, _, rfl⟩ := part_root h
  unfold restr
  rw [List.length_map]
theorem pmem {α β : Type} {F : α → β → Prop} {l : List α} {m : List β} (h : Paired F l m) : ∀ {a : α}, a ∈ l → ∃ b ∈ m, F a b := by
  induction h with
  | nil => exact fun z => nomatch z
  | cons r t ih =>
    intro a z
    rcases List.mem_cons.mp z with rfl | z
    · exact ⟨_, List.mem_cons_self, r⟩
    · obtain ⟨b, m, f⟩ := ih z
      exact ⟨b, List.mem_cons_of_mem _ m, f⟩
theorem good_refs (l : List Addr) : ∀ i : Int, V.int i ∉ l.map V.ref := fun i m => by
  obtain ⟨x, _, e⟩ := List.mem_map.mp m
  cases e
/-- two lists of the same sheets are told equal -/
theorem prs_sheets {K : PySem.W.Frag} {H : Hp} : ∀ {as bs : List Addr} {Rs : List Sh}, Paired (SheetAt K H) as Rs → Paired (SheetAt K H) bs Rs → (∀ R ∈ Rs, Valid R.lv R.ln) → Prs (DIns (C K) (RS K)) (as.map V.ref) (bs.map V.ref) H
  | _, _, _, .nil, .nil, _ => Prs.nil
  | _, _, _, .cons (a := a) (b := R) h t, .cons h' t', v => by
    have vR := v R List.mem_cons_self
    refine Prs.cons ?_ (prs_sheets t t' fun R m => v R (List.mem_cons_of_mem _ m))
    obtain ⟨dx, A, B, D, E, F, G, kf, kg, e, _⟩ := id h
    obtain ⟨dx', A', B', D', E', F', G', kf', kg', e', _⟩ := id h'
    exact ⟨_, _, _, _, _, _, rfl, rfl, e, e', R, h, h', vR.nmLv, vR.nmLn⟩
theorem rep_sheets {K : PySem.W.Frag} {H : Hp} : ∀ {as : List Addr} {Rs : List Sh}, Paired (SheetAt K H) as Rs → (∀ R ∈ Rs, Valid R.lv R.ln) → RepAt (C K) (sp_S_repr K) H as (Rs.map shownS)
  | _, _, .nil, _ => .nil
  | _, _, .cons (a := a) (b := R) h t, v => by
    refine .cons ⟨h.ins, fun H' g s gok => ?_⟩ (rep_sheets t fun R m => v R (List.mem_cons_of_mem _ m))
    exact ⟨a, R, rfl, h.s s, v R List.mem_cons_self, gok, rfl, rfl⟩
theorem rep_len {S : Sh} (v : Valid S.lv S.ln) : (listText ((partsOf S).map shownS)).length ≤ sizeLine := by
  have h1 := listText_len ((partsOf S).map shownS)
  have h2 := piled_le (l := partsOf S) (f := shownS) (n := 40300) fun R m => shown_len (parts_valid v m)
  have h3 := parts_few v
  have h4 : (partsOf S).length * (40300 + 2) ≤ 216 * 40302 := Nat.mul_le_mul_right _ h3
  have h5 : 216 * 40302 + 100 ≤ sizeLine := by decide
  omega
section
variable {P : Program} {w : World} {K : PySem.W.Frag} {mg : Str → Option Value} {base : Heap} (T : TX K mg)
include T
def sp_law_told_right (K : PySem.W.Frag) : SpG := fun g vs H Q _ => g = [] ∧ ∃ (a t : Addr) (rows : Lv) (ls : Ln), vs = [.ref a, .ref t] ∧ SheetAt K H a (mkSh rows ls) ∧ PlanAt H t rows ls ∧ Valid rows ls ∧ ∀ H', Same H H' → Q (.bl true) H'
theorem f_law_told_right : FnG P w K mg base 31 (fA K "_law_told_right") (sp_law_told_right K) := by
  obtain ⟨fd, F⟩ := dd_law_told_right T
  have nd := sc_law_told_right.nd
  refine fnG F (F.bindsN fun _ _ _ _ _ _ us hl => match us, hl with | [_, _], _ => rfl) sc_law_told_right (fun g vs H Q E h => ?_) (fun cdv A g outer s H vs Q E hg hr h => ?_)
  · obtain ⟨_, a, t, rows, ls, rfl, _⟩ := h; rfl
  · obtain ⟨rfl, a, t, rows, ls, rfl, hS, hP, va, q⟩ := h
    have hu := hu_of hr
    have hu65 := hu65_of hr
    refine ⟨_, PSs.nox ((pss_cons (ps_asg (pe_f (f_law_parts T) hr (by decide) rfl (g_law_parts T) (kp_law_parts T) (pa_cons (pv 1) pa_nil)) (pg_name (i := 2) nd rfl (by first | exact Or.inl rfl | exact Or.inr rfl)))
  (pss_cons (ps_asg (pe_m0 (f_S_parts T) hr (by decide) (cls T) (m_S_parts T) (pv 0)) (pg_name (i := 3) nd rfl (by first | exact Or.inl rfl | exact Or.inr rfl)))
  (pss_cons (ps_if (PW.pt (pw_or (pt_cmpR op_ne (pe_callB (call_reprL (f_S_repr T) (m_S_repr T) hg (hr.mono (by decide))) rfl (b_repr T) (by decide +kernel) (pa_cons (pv 3) pa_nil)) (pe_callB (call_reprL (f_S_repr T) (m_S_repr T) hg (hr.mono (by decide))) rfl (b_repr T) (by decide +kernel) (pa_cons (pv 2) pa_nil)) (nomark _)) (pw_or1 (pt_cmpR (op_neG mon_sheets (eq_sheets T rfl rfl) (hr.mono (by decide))) (pv 3) (pv 2) (nomark _)))))
  (pss_one (ps_ret pe_bl))
  pss_nil)
  (pss_cons (ps_if (pt_not (pt_val (pe_callB (k_all (K := K) rfl rfl) rfl (b_all T) (by decide +kernel) (pa_cons (pe_lc (own := [("_law_part", 4)]) (g := gName 4) (tt := tYes) rfl nd (k_ilist (K := K) rfl (pv 3)) (blkOk_by (by rfl)) (fun _ _ _ _ _ => (pg_name (i := 4) nd rfl (by first | exact Or.inl rfl | exact Or.inr rfl))) (fun _ _ _ _ _ => pts_nil) (fun _ _ _ _ _ => (pe_and (pe_cmpR (op_eqG (rc_sheets T rfl rfl) (hr.mono (by decide))) (pe_m0 (f_S_parts T) hr (by decide) (cls T) (m_S_parts T) (pv 4)) (pe_lst (pa_cons (pv 4) pa_nil)) (nomark _)) (pe_one (pe_cmpR op_eq (pe_callB (call_len_own (f_S_len T) (hr.mono (by decide)) (m_S_len T)) rfl (b_len T) PySem.boot_len (pa_cons (pv 4) pa_nil)) (pe_callB (call_len_own (f_S_len T) (hr.mono (by decide)) (m_S_len T)) rfl (b_len T) PySem.boot_len (pa_cons (pv 0) pa_nil)) (nomark _)))))) pa_nil))))
  (pss_one (ps_ret pe_bl))
  pss_nil)
  (pss_cons (ps_for PassesOwn.never rfl (k_ilist (K := K) rfl (pv 3)) (pg_name (i := 4) nd rfl (by first | exact Or.inl rfl | exact Or.inr rfl))
  (pss_cons (ps_setLc (own := [("_law_row", 7)]) (g := gName 7) (tt := tYes) (i := 5) rfl nd rfl rfl (sw_true rfl rfl rfl (by decide +kernel)) (k_ilist (K := K) rfl (pe_ix (k_ixt (K := K) rfl) (pv 1) pe_int (fun _ _ => rfl))) (blkOk_by (by rfl)) (fun _ _ _ _ _ => (pg_name (i := 7) nd rfl (by first | exact Or.inl rfl | exact Or.inr rfl))) (fun _ _ _ _ _ => pts_nil) (fun _ _ _ _ _ => (pe_lc (own := [("_law_name", 6)]) (g := gName 6) rfl nd (k_ilist (K := K) rfl (pv 7)) (blkOk_by (by rfl)) (fun _ _ _ _ _ => (pg_name (i := 6) nd rfl (by first | exact Or.inl rfl | exact Or.inr rfl))) (fun _ _ _ _ _ => (pts_one (pt_cmpR (op_in_own (f_S_contains T) (hr.mono (by decide)) (m_S_contains T)) (pv 6) (pv 4) (by with_unfolding_all rfl)))) (fun _ _ _ _ _ => (pv 6)))))
  (pss_one (ps_if (pt_not (pt_val (pe_f (f_law_tells T) hr (by decide) rfl (g_law_tells T) (kp_law_tells T) (pa_cons (pv 4) (pa_cons (pv 5) (pa_cons (pe_lc (own := [("_law_one", 8)]) (g := gName 8) rfl nd (k_ilist (K := K) rfl (pe_ix (k_ixt (K := K) rfl) (pv 1) pe_int (fun _ _ => rfl))) (blkOk_by (by rfl)) (fun _ _ _ _ _ => (pg_name (i := 8) nd rfl (by first | exact Or.inl rfl | exact Or.inr rfl))) (fun _ _ _ _ _ => (pts_one (pt_cmpR (op_in_own (f_S_contains T) (hr.mono (by decide)) (m_S_contains T)) (pe_ix (k_ixt (K := K) rfl) (pv 8) pe_int (fun _ _ => rfl)) (pv 4) (by with_unfolding_all rfl)))) (fun _ _ _ _ _ => (pv 8))) pa_nil))))))
  (pss_one (ps_ret pe_bl))
  pss_nil))))
  (pss_cons (ps_expr (k_bm (K := K) rfl PySem.F.plainAttrs_list PySem.F.slot_list_append PySem.F.type_list_append mt_append (pv 3) (pa_cons pe_non pa_nil)))
  (pss_cons (ps_expr (k_bm0 (K := K) rfl PySem.F.plainAttrs_list PySem.F.slot_list_reverse PySem.F.type_list_reverse mt_reverse (pv 3)))
  (pss_one (ps_ret (pe_and (pe_cmpR (op_eqG (rc_sheets T rfl rfl) (hr.mono (by decide))) (pe_m0 (f_S_parts T) hr (by decide) (cls T) (m_S_parts T) (pv 0)) (pv 2) (nomark _)) (pe_one (pe_cmpR op_eq (pe_callB (call_reprO (f_S_repr T) (m_S_repr T) hg (hr.mono (by decide))) rfl (b_repr T) (by decide +kernel) (pa_cons (pv 0) pa_nil)) (pe_callB (call_reprO (f_S_repr T) (m_S_repr T) hg (hr.mono (by decide))) rfl (b_repr T) (by decide +kernel) (pa_cons (pe_f (f_law_sheet T) hr (by decide) rfl (g_law_sheet T) (kp_law_sheet T) (pa_cons (pv 1) pa_nil)) pa_nil)) (nomark _)))))))))))))), ?_⟩
    have vS := va.srt
    have hup := mkSh_up rows ls
    generalize hSS : mkSh rows ls = S at hS hup
    have vS' : Valid S.lv S.ln := by rw [← hSS]; exact vS
    obtain ⟨dx, A', B', D', E', F', G', kf, kg, ex, _⟩ := id hS
    -- due, told
    refine ⟨.ref t, rfl, t, rows, ls, rfl, hP, va, fun H1 d ad s1 fd1 ed hd => ?_⟩
    rw [hSS] at hd
    refine ⟨.ref a, rfl, a, dx, _, rfl, s1 _ _ ex, rfl, a, S, rfl, hS.s s1, vS', hup, fun H2 b ab s2 fb eb hb => ?_⟩
    have ed2 := s2 _ _ ed
    have nbd : b ≠ d := (ne_of_none ed fb).symm
    have hd2 : Paired (SheetAt K (ers b H2)) ad (partsOf S) := L2.Paired.mapP hd fun _ _ h => h.s ((ers_same _ _).trans (s2.ers0 fb))
    have pv := fun R (m : R ∈ partsOf S) => parts_valid vS' m
    have hb' : Paired (SheetAt K H2) ab (partsOf S) := L2.Paired.mapP hb fun _ _ h => h.s (ers_same _ _)
    have hd' : Paired (SheetAt K H2) ad (partsOf S) := L2.Paired.mapP hd2 fun _ _ h => h.s (ers_same _ _)
    refine ⟨.ref b, rfl, b, ab, _, rfl, eb, rep_sheets hb' pv, rep_len vS', fun H3 s3 => ?_⟩
    refine ⟨.ref d, rfl, d, ad, _, rfl, s3 _ _ ed2, rep_sheets (L2.Paired.mapP hd' fun _ _ h => h.s s3) pv, rep_len vS', fun H4 s4 => ?_⟩
    refine ⟨rfl, false, by rw [decide_eq_true rfl]; rfl, iteF ?_⟩
    have s24 := s3.trans s4
    refine ⟨.ref b, rfl, .ref d, rfl, ⟨b, d, _, _, rfl, rfl, s24 _ _ eb, s24 _ _ ed2, prs_sheets (L2.Paired.mapP hb' fun _ _ h => h.s s24) (L2.Paired.mapP hd' fun _ _ h => h.s s24) pv⟩, fun H5 s5 => ⟨false, rfl, iteF ?_⟩⟩
    have s25 : Same H2 H5 := s24.trans s5
    have abl : ab.length ≤ 216 := by
      rw [hb.length]
      exact parts_few vS'
    have sS : Same H H2 := s1.trans s2
    -- each part has one part
    refine ⟨.ref b, rfl, b, rfl, ⟨_, sqR (s25 _ _ eb)⟩, fun D hD => ?_⟩
    refine lcG (wk_list (K := K) (f := V.ref) (sqR (s25 _ _ eb)) (good_refs ab)) hD (sz64' (by omega)) (fun _ => true) (fun z y _ => y = .bl true) (fun _ _ _ _ _ h => h) (fun x hx v H6 Nx sN _ _ e1 _ yes no => ?_) (fun H6 ys6 s6 eD pD => ?_)
    · subst e1
      have sN' := s25.trans (sN.trans (ers_same _ _))
      obtain ⟨R, mR, hR⟩ := pmem hb' hx
      have hR6 := hR.s sN'
      have vR := pv R mR
      obtain ⟨dx', A1, B1, D1, E1, F1, G1, kf1, kg1, ex', _⟩ := id hR6
      refine ⟨rfl, tyes (iteT ⟨.ref x, rfl, x, dx', _, rfl, ex', rfl, x, R, rfl, hR6, vR, parts_up hup mR, fun H7 p as s7 f7 e7 pr => ?_⟩)⟩
      rw [parts_self vS' mR] at pr
      refine ⟨.ref x, rfl, by show 1 ≤ sizeLine; exact sz64 (by decide), fun M hM => ?_⟩
      have sM := same_new hM (o := .lst [.ref x])
      have hR8 := (hR6.s s7).s sM
      refine ⟨⟨p, M, _, _, rfl, rfl, sM _ _ e7, upd_same, prs_sheets (bs := [x]) (L2.Paired.mapP pr fun _ _ h => h.s ((ers_same _ _).trans sM)) (.cons hR8 .nil) (fun R' m => by cases List.mem_singleton.mp m; exact vR)⟩, fun H8 s8 => ⟨true, rfl, iteT ?_⟩⟩
      have s28 : Same H H8 := sS.trans (sN'.trans ((s7.trans sM).trans s8))
      have tl := vR.tall
      have tl2 := vS'.tall
      refine ⟨.ref x, rfl, lenq (hR8.s s8) (by omega) ⟨.ref a, rfl, lenq (hS.s s28) (by omega) ⟨rfl, ?_⟩⟩⟩
      refine yes _ _ rfl ((s7.trans sM).trans s8) ?_
      rw [parts_tall mR, decide_eq_true rfl]
    rw [filter_yes] at pD
    refine all_true eD pD ⟨true, rfl, iteF ?_⟩
    have s26 : Same H2 H6 := s25.trans (s6.trans (ers_same _ _))
    obtain ⟨A, B, et, ⟨ps, ep, eA, hps⟩, ⟨qs, eq, eB, hqs⟩⟩ := id hP
    have tall := va.tall
    rw [ep, List.length_map] at tall
    have few := va.few
    rw [eq, List.length_map] at few
    refine ⟨.ref b, rfl, b, rfl, ⟨_, sqR (s26 _ _ eb)⟩, ?_⟩
    refine forG (wk_list (K := K) (H1 := H2) (f := V.ref) (sqR eb) (good_refs ab)) (fun i σ H' => ∃ y4 y5 y6 y7 y8 : Option V, σ = [some (.ref a), some (.ref t), some (.ref d), some (.ref b), y4, y5, y6, y7, y8] ∧ Same H2 H')
      ⟨_, _, _, _, _, rfl, s26⟩ (fun i σ H' ⟨_, _, _, _, _, _, s⟩ => s.g) ?_ ?_
    · rintro i x v σ H7 H8 ez ⟨y4, y5, y6, y7, y8, rfl, s7⟩ sm rfl
      have s8 := s7.trans sm
      have s8S := sS.trans s8
      obtain ⟨R, mR, hR⟩ := pmem hb' (List.mem_of_getElem? ez)
      have hR8 := hR.s s8
      have vR := pv R mR
      have pp := part_plain va (hSS ▸ mR)
      refine ⟨.ref t, rfl, t, _, 0, .ref A, rfl, rfl, .inl (.inl (s8S _ _ et)), atI_nat (j := 0) rfl, A, rfl, ⟨_, sqR (s8S _ _ eA)⟩, fun L hL => ?_⟩
      refine lcG (wk_list (f := fun p : Addr × List Str => V.ref p.1) (sqR (s8S _ _ eA)) (good_ref _ _)) hL (sz64' (by omega)) (fun _ => true) (fun z y G => ∃ t, y = .ref t ∧ LS G t (z.2.filter fun y => decide (y ∈ R.lv.flatten))) (fun z y G G' g ⟨t, e, h⟩ => ⟨t, e, h.s g⟩) (fun z hz v H' Nx sN _ ⟨acc, eacc⟩ e _ yes no => ?_) (fun H10 ys s10 eL pp2 => ?_)
      · subst e
        have sN' := sN.trans (ers_same _ _)
        have hz1 := (hps _ hz).s (s8S.trans sN')
        have mrow : z.2 ∈ rows := by rw [ep]; exact List.mem_map.mpr ⟨z, hz, rfl⟩
        have wd := va.wide z.2 mrow
        refine ⟨rfl, tyes (iteT ⟨.ref z.1, rfl, z.1, rfl, ⟨_, hz1.sq⟩, fun M hM => ?_⟩)⟩
        refine lcG (wk_list (f := V.str) hz1.sq (good_str _)) hM (sz64' (by omega)) (fun y => decide (y ∈ R.lv.flatten)) (fun z v _ => v = .str z) (fun _ _ _ _ _ h => h) (fun y hy v H2 Nx2 sN2 _ _ e _ yes2 no2 => ?_) (fun H2 ys2 s4 e4 p4 => ?_)
        · subst e
          have hRy := (hR8.s sN').s (sN2.trans (ers_same _ _))
          refine ⟨rfl, .str y, rfl, .ref x, rfl, x, rfl, hRy.ins, x, R, hRy, vR.nd, vR.nmLn, .inl ⟨y, rfl, va.names _ mrow y hy, _, rfl, _, rfl, ?_⟩⟩
          by_cases m : y ∈ R.lv.flatten
          · rw [decide_eq_true m]
            exact iteT ⟨.str y, rfl, yes2 _ _ (decide_eq_true m) (.refl _) rfl⟩
          · rw [decide_eq_false m]
            exact iteF (no2 _ (decide_eq_false m) (.refl _))
        · have nM : M ≠ L := fun e => by rw [e, eacc] at hM; cases hM
          exact yes _ _ rfl (s4.trans (ers_same _ _)) ⟨M, rfl, (ers_ne nM).trans (by rw [e4, paired_eq (f := V.str) p4])⟩
      rw [filter_yes] at pp2
      have s10' := s10.trans (ers_same _ _)
      have hLL : LL H10 L (rows.map fun r => r.filter fun y => decide (y ∈ R.lv.flatten)) := by
        have h := (LL.made (gg := fun z : Addr × List Str => z.2.filter fun y => decide (y ∈ R.lv.flatten)) (L2.Paired.mapP pp2 fun z y ⟨t, e, h⟩ => ⟨t, e, h.s (ers_same _ _)⟩) eL)
        rw [ep, List.map_map]
        exact h
      have s10S := s8S.trans s10'
      have hR10 := hR8.s s10'
      refine ⟨.ref x, rfl, .ref L, rfl, .ref t, rfl, t, _, 1, .ref B, rfl, rfl, .inl (.inl (s10S _ _ et)), atI_nat (j := 1) rfl, B, rfl, ⟨_, sqR (s10S _ _ eB)⟩, fun M hM => ?_⟩
      refine lcG (wk_list (f := fun p : Addr × Str × Str => V.ref p.1) (sqR (s10S _ _ eB)) (good_ref _ _)) hM (sz64' (by omega)) (fun z => decide (z.2.1 ∈ R.lv.flatten)) (fun z y _ => y = .ref z.1) (fun _ _ _ _ _ h => h) (fun z hz v H2 Nx sN _ _ e1 _ yes no => ?_) (fun H11 ys11 s11 eM pM => ?_)
      · subst e1
        have sN' := sN.trans (ers_same _ _)
        have tz := (hqs z hz).s (s10S.trans sN')
        have hRz := hR10.s sN'
        have nz : NmP z.2 := va.nmLn _ (by rw [eq]; exact List.mem_map.mpr ⟨z, hz, rfl⟩)
        refine ⟨rfl, .ref z.1, rfl, z.1, _, 0, .str z.2.1, rfl, rfl, tz.sq, rfl, .ref x, rfl, x, rfl, hRz.ins, x, R, hRz, vR.nd, vR.nmLn, .inl ⟨z.2.1, rfl, nz.1, _, rfl, _, rfl, ?_⟩⟩
        by_cases m : z.2.1 ∈ R.lv.flatten
        · rw [decide_eq_true m]
          exact iteT ⟨.ref z.1, rfl, yes _ _ (decide_eq_true m) (.refl _) rfl⟩
        · rw [decide_eq_false m]
          exact iteF (no _ (decide_eq_false m) (.refl _))
      have s11' := s11.trans (ers_same _ _)
      have hLT : LT H11 M (ls.filter fun p => decide (p.1 ∈ R.lv.flatten)) := by
        have hl := ltp_filt ⟨s10S _ _ eB, fun z hz => (hqs z hz).s s10S⟩ s11' eM pM
        refine ⟨_, ?_, hl⟩
        rw [filt_map (fun p => decide (p.1 ∈ R.lv.flatten)), ← eq]
      refine ⟨x, L, M, _, _, rfl, pp.1 ▸ hR10.s s11', hLL.s s11', hLT, pp.2, fun H12 s12 => ⟨true, rfl, iteF ?_⟩⟩
      exact ⟨_, _, _, _, _, rfl, s8.trans ((s10'.trans s11').trans s12)⟩
    · rintro σ H7 ⟨y4, y5, y6, y7, y8, rfl, s7⟩
      have eb7 := s7 _ _ eb
      refine ⟨.ref b, rfl, .inl ⟨rfl, _, sqR eb7⟩, b, _, _, rfl, rfl, eb7, sz64' (by rw [List.length_map]; omega), ?_⟩
      refine ⟨.ref b, rfl, .inl ⟨rfl, _, sqR upd_same⟩, b, _, rfl, rfl, upd_same, ?_⟩
      have sF : ∀ c o, c ≠ b → H7 c = some o → (upd (upd H7 b (.lst (ab.map V.ref ++ [V.non]))) b (.lst (ab.map V.ref ++ [V.non]).reverse)) c = some o := fun c o n e => (upd_ne n).trans ((upd_ne n).trans e)
      generalize (upd (upd H7 b (.lst (ab.map V.ref ++ [V.non]))) b (.lst (ab.map V.ref ++ [V.non]).reverse)) = H8 at sF ⊢
      have sH8 : Same H H8 := fun c o e => sF c o (ne_of_none (s1 _ _ e) fb) (s7 _ _ (sS _ _ e))
      have ed8 := sF d _ nbd.symm (s7 _ _ ed2)
      have hd8 : Paired (SheetAt K H8) ad (partsOf S) := L2.Paired.mapP hd2 fun _ _ h => h.s fun c o e => by
        obtain ⟨n, e⟩ := ers_some e
        exact sF c o n (s7 _ _ e)
      refine ⟨.ref a, rfl, a, dx, _, rfl, sH8 _ _ ex, rfl, a, S, rfl, hS.s sH8, vS', hup, fun H9 p as s9 f9 e9 pr => ?_⟩
      refine ⟨.ref d, rfl, ⟨p, d, _, _, rfl, rfl, e9, s9 _ _ ed8, prs_sheets (L2.Paired.mapP pr fun _ _ h => h.s (ers_same _ _)) (L2.Paired.mapP hd8 fun _ _ h => h.s s9) pv⟩, fun H10 s10 => ⟨true, rfl, iteT ?_⟩⟩
      have s10' := sH8.trans (s9.trans s10)
      refine ⟨.ref a, rfl, a, rfl, (hS.s s10').ins, a, S, rfl, hS.s s10', vS', fun _ _ _ _ h => (nomatch h), shownS S, rfl, ?_⟩
      have hP10 : PlanAt H10 t rows ls := ⟨A, B, s10' _ _ et, ⟨ps, ep, s10' _ _ eA, fun z hz => (hps z hz).s s10'⟩, ⟨qs, eq, s10' _ _ eB, fun z hz => (hqs z hz).s s10'⟩⟩
      refine ⟨.ref t, rfl, t, rows, ls, rfl, hP10, va, fun H11 y s11 f11 hy => ?_⟩
      rw [hSS] at hy
      have hy' := hy.s (dropL_same _ _)
      refine ⟨y, rfl, hy'.ins, y, S, rfl, hy', vS', fun _ _ _ _ h => (nomatch h), shownS S, rfl, rfl, ?_⟩
      rw [decide_eq_true rfl]
      exact q _ (s10'.trans s11)
end
end U

set_option linter.all false
set_option maxRecDepth 100000
set_option maxHeartbeats 2000000
/-! Sheets from rows in another order; parts put together. -/
namespace U
open PySem PySem.Spec PyProof.Rows L2 UR
/-- row by row the same names -/
def RowP (rows rows' : Lv) : Prop := Paired (fun r r' : List Str => r.Perm r') rows rows'
theorem RowP.rfl' : ∀ rows : Lv, RowP rows rows
  | [] => .nil
  | r :: rows => .cons (.refl _) (RowP.rfl' rows)
theorem RowP.srt : ∀ {rows rows' : Lv}, RowP rows rows' → rows.map srt = rows'.map srt
  | _, _, .nil => rfl
  | _, _, .cons h t => by rw [List.map_cons, List.map_cons, srt_perm_eq h, RowP.srt t]
theorem RowP.flat : ∀ {rows rows' : Lv}, RowP rows rows' → rows.flatten.Perm rows'.flatten
  | _, _, .nil => .nil
  | _, _, .cons h t => by rw [List.flatten_cons, List.flatten_cons]; exact h.append (RowP.flat t)
theorem RowP.get : ∀ {rows rows' : Lv}, RowP rows rows' → ∀ {i : Nat} {r : List Str}, rows[i]? = some r → ∃ r', rows'[i]? = some r' ∧ r.Perm r'
  | _, _, .nil, _, _, e => by simp at e
  | _, _, .cons h t, 0, _, e => by simp at e; subst e; exact ⟨_, rfl, h⟩
  | _, _, .cons h t, i + 1, _, e => RowP.get t (i := i) (by simpa using e)
theorem RowP.symm : ∀ {rows rows' : Lv}, RowP rows rows' → RowP rows' rows
  | _, _, .nil => .nil
  | _, _, .cons h t => .cons h.symm (RowP.symm t)
theorem rowP_srt : ∀ rows : Lv, RowP (rows.map srt) rows
  | [] => .nil
  | r :: rows => .cons (srt_perm r) (rowP_srt rows)
theorem mkSh_perm {rows rows' : Lv} {ls ls' : Ln} (h : RowP rows rows') (k : ls.Perm ls') : mkSh rows ls = mkSh rows' ls' := by
  unfold mkSh
  rw [h.srt, srtL_perm_eq k]
theorem valid_perm {rows rows' : Lv} {ls ls' : Ln} (v : Valid rows ls) (h : RowP rows rows') (k : ls.Perm ls') : Valid rows' ls' where
  ne := fun e => by
    subst e
    cases h
    exact v.ne rfl
  tall := by rw [← Paired.length h]; exact v.tall
  wide := fun r m => by
    obtain ⟨i, e⟩ := List.mem_iff_getElem?.mp m
    obtain ⟨r', e', p⟩ := h.symm.get e
    rw [p.length_eq]
    exact v.wide r' (List.mem_of_getElem? e')
  names := fun r m x hx => by
    obtain ⟨i, e⟩ := List.mem_iff_getElem?.mp m
    obtain ⟨r', e', p⟩ := h.symm.get e
    exact v.names r' (List.mem_of_getElem? e') x (p.mem_iff.mp hx)
  nd := h.flat.nodup_iff.mp v.nd
  few := by rw [← k.length_eq]; exact v.few
  lnd := k.nodup_iff.mp v.lnd
  ok := fun p m => by
    obtain ⟨i, r, r', h1, h2, m1, m2⟩ := v.ok p (k.mem_iff.mpr m)
    obtain ⟨s, e, q⟩ := h.get h1
    obtain ⟨s', e', q'⟩ := h.get h2
    exact ⟨i, s, s', e, e', q.mem_iff.mp m1, q'.mem_iff.mp m2⟩
/-! ### side by side -/
theorem filter_or {α : Type} (f g : α → Bool) : ∀ {l : List α}, (∀ x ∈ l, f x = true → g x = false) → (l.filter f ++ l.filter g).Perm (l.filter fun x => f x || g x)
  | [], _ => .nil
  | x :: l, h => by
    have ih := filter_or f g (l := l) fun y m => h y (List.mem_cons_of_mem _ m)
    rw [List.filter_cons, List.filter_cons, List.filter_cons]
    by_cases a : f x = true
    · have b := h x List.mem_cons_self a
      rw [if_pos a, if_neg (by rw [b]; exact Bool.false_ne_true), if_pos (by rw [a]; rfl)]
      exact ih.cons x
    · have a' : f x = false := by simpa using a
      rw [if_neg a]
      by_cases b : g x = true
      · rw [if_pos b, if_pos (by rw [b, Bool.or_true])]
        exact List.perm_middle.trans (ih.cons x)
      · have b' : g x = false := by simpa using b
        rw [if_neg b, if_neg (by rw [a', b']; exact Bool.false_ne_true)]
        exact ih
theorem zip_rows (f g : Str → Bool) : ∀ {lv : Lv}, (∀ r ∈ lv, ∀ x ∈ r, f x = true → g x = false) → RowP (List.zipWith (· ++ ·) (lv.map fun r => r.filter f) (lv.map fun r => r.filter g)) (lv.map fun r => r.filter fun x => f x || g x)
  | [], _ => .nil
  | r :: lv, h => .cons (filter_or f g (h r List.mem_cons_self)) (zip_rows f g fun r m => h r (List.mem_cons_of_mem _ m))
theorem sub_up {S : Sh} (h : Up S) (f : Str → Bool) : Up (subS S f) := ⟨fun r m => by obtain ⟨r', m', rfl⟩ := List.mem_map.mp m; exact (h.lv r' m').filter _, h.ln.filter _⟩
theorem sub_valid {S : Sh} (v : Valid S.lv S.ln) (f : Str → Bool) (h : ∀ p ∈ S.ln, f p.1 = true → f p.2 = true) : Valid (subS S f).lv (subS S f).ln := valid_sub v _ _ fun p hp e => ⟨e, h p hp e⟩
theorem sub_or {S : Sh} (u : Up S) (v : Valid S.lv S.ln) {f g : Str → Bool} (h : ∀ x ∈ S.lv.flatten, f x = true → g x = false) :
    mkSh (List.zipWith (· ++ ·) (subS S f).lv (subS S g).lv) ((subS S f).ln ++ (subS S g).ln) = subS S fun x => f x || g x := by
  refine (mkSh_perm (rows' := (subS S fun x => f x || g x).lv) (ls' := (subS S fun x => f x || g x).ln) (zip_rows f g fun r hr x hx => h x (List.mem_flatten.mpr ⟨r, hr, hx⟩)) (filter_or _ _ fun p hp => h _ (ln_nodes v hp).1)).trans ?_
  exact mkSh_id (sub_up u _)
theorem sub_or_valid {S : Sh} (v : Valid S.lv S.ln) {f g : Str → Bool} (h : ∀ x ∈ S.lv.flatten, f x = true → g x = false) (hf : ∀ p ∈ S.ln, f p.1 = true → f p.2 = true) (hg : ∀ p ∈ S.ln, g p.1 = true → g p.2 = true) :
    Valid (List.zipWith (· ++ ·) (subS S f).lv (subS S g).lv) ((subS S f).ln ++ (subS S g).ln) := by
  have v2 : Valid (subS S fun x => f x || g x).lv (subS S fun x => f x || g x).ln := sub_valid v _ fun p hp e => by
    rw [Bool.or_eq_true] at e ⊢
    exact e.imp (hf p hp) (hg p hp)
  exact valid_perm v2 (zip_rows f g fun r hr x hx => h x (List.mem_flatten.mpr ⟨r, hr, hx⟩)).symm (filter_or _ _ fun p hp => h _ (ln_nodes v hp).1).symm
end U

set_option linter.all false
set_option maxRecDepth 100000
set_option maxHeartbeats 8000000
/-! The law's walks, ninth part: put together again. -/
namespace U
open PySem PySem.Spec PyProof.Rows L2 UR
theorem paired_perm {α β : Type} {F : α → β → Prop} {l l' : List α} (h : l'.Perm l) : ∀ {m : List β}, Paired F l m → ∃ m', m'.Perm m ∧ Paired F l' m' := by
  induction h with
  | nil => exact fun h => ⟨_, .refl _, h⟩
  | cons x h ih =>
    rintro m (_ | ⟨r, t⟩)
    obtain ⟨m', p, t'⟩ := ih t
    exact ⟨_, p.cons _, .cons r t'⟩
  | swap x y t =>
    rintro m (_ | ⟨r, _ | ⟨r', t⟩⟩)
    exact ⟨_, .swap _ _ _, .cons r' (.cons r t)⟩
  | trans h1 h2 ih1 ih2 =>
    intro m h
    obtain ⟨m2, p2, t2⟩ := ih2 h
    obtain ⟨m1, p1, t1⟩ := ih1 t2
    exact ⟨m1, p1.trans p2, t1⟩
def Apart (R R' : Sh) : Prop := ∀ y ∈ R.lv.flatten, y ∉ R'.lv.flatten
theorem parts_apart (S : Sh) : (partsOf S).Pairwise Apart := by
  unfold partsOf
  refine List.pairwise_map.mpr ((roots_apart _ _).imp fun n y hy hy' => n ?_)
  exact (restr_nodes.mp hy).2.trans (restr_nodes.mp hy').2.symm
open Classical in
theorem part_sub {S : Sh} (v : Valid S.lv S.ln) {R : Sh} (h : R ∈ partsOf S) : R = subS S fun y => decide (y ∈ R.lv.flatten) := by
  obtain ⟨x, _, hx, rfl⟩ := part_root h
  conv => lhs; rw [restr_sub]
  refine subS_congr v fun y hy => ?_
  rw [decide_eq_decide, restr_nodes]
  exact ⟨fun c => ⟨hy, c⟩, fun c => c.2⟩
theorem part_closed {S : Sh} (v : Valid S.lv S.ln) {R : Sh} (h : R ∈ partsOf S) {p : Str × Str} (hp : p ∈ S.ln) (m : p.1 ∈ R.lv.flatten) : p.2 ∈ R.lv.flatten := by
  obtain ⟨x, _, hx, rfl⟩ := part_root h
  exact restr_nodes.mpr ⟨(ln_nodes v hp).2, .up (restr_nodes.mp m).2 hp⟩
theorem part_some {S : Sh} {R : Sh} (h : R ∈ partsOf S) : R.lv.flatten ≠ [] := by
  obtain ⟨x, _, hx, rfl⟩ := part_root h
  exact List.ne_nil_of_mem (restr_nodes.mpr ⟨hx, .refl x⟩)
theorem parts_cover {S : Sh} {y : Str} (hy : y ∈ S.lv.flatten) : ∃ R ∈ partsOf S, y ∈ R.lv.flatten := by
  rcases roots_all (ln := S.ln) (seen := []) hy with ⟨x, m, c⟩ | ⟨x, m, _⟩
  · exact ⟨restr S x, List.mem_map.mpr ⟨x, m, rfl⟩, restr_nodes.mpr ⟨hy, c⟩⟩
  · cases m
/-- the nodes of some sheets -/
def inAny (Ts : List Sh) (y : Str) : Bool := Ts.any fun R => decide (y ∈ R.lv.flatten)
theorem inAny_iff {Ts : List Sh} {y : Str} : inAny Ts y = true ↔ ∃ R ∈ Ts, y ∈ R.lv.flatten := by
  unfold inAny
  rw [List.any_eq_true]
  exact ⟨fun ⟨R, m, h⟩ => ⟨R, m, of_decide_eq_true h⟩, fun ⟨R, m, h⟩ => ⟨R, m, decide_eq_true h⟩⟩
theorem inAny_snoc (Ts : List Sh) (R : Sh) : inAny (Ts ++ [R]) = fun y => inAny Ts y || decide (y ∈ R.lv.flatten) := by
  funext y
  unfold inAny
  rw [List.any_append]
  simp
section
variable {S R : Sh} {Ts : List Sh}
theorem any_disj (h : ∀ T ∈ Ts, Apart T R) : ∀ x ∈ S.lv.flatten, inAny Ts x = true → decide (x ∈ R.lv.flatten) = false := fun x _ e => by
  obtain ⟨T, m, hx⟩ := inAny_iff.mp e
  exact decide_eq_false (h T m x hx)
theorem any_closed (v : Valid S.lv S.ln) (h : ∀ T ∈ Ts, T ∈ partsOf S) : ∀ p ∈ S.ln, inAny Ts p.1 = true → inAny Ts p.2 = true := fun p hp e => by
  obtain ⟨T, m, hx⟩ := inAny_iff.mp e
  exact inAny_iff.mpr ⟨T, m, part_closed v (h T m) hp hx⟩
theorem sub_nodes {f : Str → Bool} {y : Str} : y ∈ (subS S f).lv.flatten ↔ y ∈ S.lv.flatten ∧ f y = true := by
  unfold subS
  rw [flat_filter, List.mem_filter]
end
theorem subS_none {S : Sh} (v : Valid S.lv S.ln) : subS S (inAny []) = mkSh (List.replicate S.lv.length []) [] := by
  unfold subS mkSh
  have e1 : (S.lv.map fun r => r.filter (inAny [])) = S.lv.map fun _ => ([] : List Str) := List.map_congr_left fun r _ => List.filter_eq_nil_iff.mpr fun _ _ h => (by cases h)
  have e2 : (S.ln.filter fun p => inAny [] p.1) = [] := List.filter_eq_nil_iff.mpr fun _ _ h => (by cases h)
  have e3 : srt [] = [] := (srt_perm []).eq_nil
  have e4 : srtL [] = [] := (srtL_perm []).eq_nil
  rw [e1, e2, List.map_replicate, List.map_const', e3, e4]
theorem empty_valid {n : Nat} (h0 : 0 < n) (h : n ≤ 12) : Valid (List.replicate n []) [] where
  ne := fun e => by
    have := congrArg List.length e
    rw [List.length_replicate] at this
    simp at this
    omega
  tall := by rw [List.length_replicate]; exact h
  wide := fun r m => by rw [(List.mem_replicate.mp m).2]; exact Nat.zero_le _
  names := fun r m x hx => by rw [(List.mem_replicate.mp m).2] at hx; cases hx
  nd := by
    have : (List.replicate n ([] : List Str)).flatten = [] := List.flatten_eq_nil_iff.mpr fun r m => (List.mem_replicate.mp m).2
    rw [this]
    exact .nil
  few := Nat.zero_le _
  lnd := .nil
  ok := fun p m => nomatch m
section
variable {P : Program} {w : World} {K : PySem.W.Frag} {mg : Str → Option Value} {base : Heap} (T : TX K mg)
include T
def sp_law_again_right (K : PySem.W.Frag) : Sp := fun vs H Q _ => ∃ (p a : Addr) (S : Sh), vs = [.ref p, .ref a] ∧ PotAt H p ∧ SheetAt K H a S ∧ Valid S.lv S.ln ∧ Up S ∧ ∀ H', Off p H H' → PotAt H' p → Q (.bl true) H'
theorem f_law_again_right : Fn P w K mg base 26 (fA K "_law_again_right") (sp_law_again_right K) [] := by
  obtain ⟨fd, F⟩ := dd_law_again_right T
  have nd := sc_law_again_right.nd
  refine fnD F (F.bindsN fun _ _ _ _ _ _ us hl => match us, hl with | [_, _], _ => rfl) sc_law_again_right (fun vs H Q E h => ?_) (fun cdv A outer s H vs Q E hr h => ?_)
  · obtain ⟨p, a, S, rfl, _⟩ := h; rfl
  · obtain ⟨p, a, S, rfl, hp, hS, va, hup, q⟩ := h
    refine ⟨_, PSs.nox ((pss_cons (ps_asg (pe_n (mk T) (f_S_init1 T) hr (by decide) rfl (g_Sheet T) (pa_cons (pe_lc (own := [("_law_level_now", 3)]) (g := gName 3) (tt := tYes) rfl nd (pi_range1 rfl (b_range T) (pa_cons (pe_callB (call_len_own (f_S_len T) (hr.mono (by decide)) (m_S_len T)) rfl (b_len T) PySem.boot_len (pa_cons (pv 1) pa_nil)) pa_nil)) (blkOk_by (by rfl)) (fun _ _ _ _ _ => (pg_name (i := 3) nd rfl (by first | exact Or.inl rfl | exact Or.inr rfl))) (fun _ _ _ _ _ => pts_nil) (fun _ _ _ _ _ => (pe_lst pa_nil))) pa_nil)) (pg_name (i := 2) nd rfl (by first | exact Or.inl rfl | exact Or.inr rfl)))
  (pss_cons (ps_for PassesOwn.never rfl (k_ilist (K := K) rfl (pe_f (f_law_some T) hr (by decide) rfl (g_law_some T) (kp_law_some T) (pa_cons (pv 0) (pa_cons (pe_m0 (f_S_parts T) hr (by decide) (cls T) (m_S_parts T) (pv 1)) (pa_cons (pe_callB (k_len (K := K) rfl) rfl (b_len T) PySem.boot_len (pa_cons (pe_m0 (f_S_parts T) hr (by decide) (cls T) (m_S_parts T) (pv 1)) pa_nil)) pa_nil))))) (pg_name (i := 4) nd rfl (by first | exact Or.inl rfl | exact Or.inr rfl))
  (pss_one (ps_asg (pe_op (op_own (f_S_or T) (hr.mono (by decide)) (x_first T) (m_S_or T)) (pv 2) (pv 4)) (pg_name (i := 2) nd rfl (by first | exact Or.inl rfl | exact Or.inr rfl)))))
  (pss_one (ps_ret (pe_cmpR (op_eq_own (f_S_eq T) (hr.mono (by decide)) (m_S_eq T)) (pv 2) (pv 1) (nomark _))))))), ?_⟩
    obtain ⟨dx, A', B', D', E', F', G', kf, kg, ex, _⟩ := id hS
    have tall := va.tall
    have flat := va.flat
    have pos : 0 < S.lv.length := List.length_pos_iff.mpr va.ne
    refine ⟨.ref a, rfl, lenq hS (by omega) ⟨S.lv.length, rfl, by omega, by omega, fun L hL => ?_⟩⟩
    refine lcG (wk_range 0 S.lv.length) hL (sz64' (by rw [List.length_range]; omega)) (fun _ => true) (fun z y G => ∃ t, y = .ref t ∧ LS G t []) (fun z y G G' g ⟨t, e, h⟩ => ⟨t, e, h.s g⟩) (fun z hz v H' Nx sN _ ⟨acc, eacc⟩ e _ yes no => ?_) (fun H1 ys s1 eL pp => ?_)
    · subst e
      refine ⟨rfl, tyes (iteT ⟨Nat.zero_le _, fun t ht => ?_⟩)⟩
      have nt : t ≠ L := fun e => by rw [e, eacc] at ht; cases ht
      exact yes _ _ rfl (same_new ht) ⟨t, rfl, (ers_ne nt).trans upd_same⟩
    rw [filter_yes] at pp
    have s1' := s1.trans (ers_same _ _)
    have hLL : LL H1 L (List.replicate S.lv.length []) := by
      have h := LL.made (gg := fun _ : Nat => ([] : List Str)) (L2.Paired.mapP pp fun z y ⟨t, e, h⟩ => ⟨t, e, h.s (ers_same _ _)⟩) eL
      rwa [List.map_const', List.length_range] at h
    refine mkq2 hLL (.inr ⟨rfl, tup0 T⟩) (empty_valid pos tall) fun x H2 s2 f2 hx => ?_
    rw [← subS_none va] at hx
    have hx2 := hx.s (dropL_same _ _)
    have s02 := s1'.trans s2
    -- the parts, twice
    refine ⟨.ref p, rfl, .ref a, rfl, a, dx, _, rfl, s02 _ _ ex, rfl, a, S, rfl, hS.s s02, va, hup, fun H3 p3 as s3 f3 e3 pr3 => ?_⟩
    refine ⟨.ref a, rfl, a, dx, _, rfl, s3 _ _ (s02 _ _ ex), rfl, a, S, rfl, (hS.s s02).s s3, va, hup, fun H4 p4 as4 s4 f4 e4 pr4 => ?_⟩
    have hl3 : as.length = (partsOf S).length := pr3.length
    have hl4 : as4.length = (partsOf S).length := pr4.length
    have few := parts_few va
    have s24 := s3.trans s4
    have hp4 : PotAt H4 p := (hp.s s02).s s24
    refine ⟨p4, _, rfl, .inl (sqR e4), p, p3, _, as4.length, by rw [List.length_map]; rfl, hp4, s4 _ _ e3, by rw [List.length_map]; omega, by rw [List.length_map]; omega, fun H5 q' ys zs o5 hp5 fq' eq5 ly pm => ?_⟩
    have hz : zs = [] := by
      have := pm.length_eq
      rw [List.length_append, List.length_map] at this
      exact List.eq_nil_of_length_eq_zero (by omega)
    subst hz
    rw [List.append_nil] at pm
    obtain ⟨as', rfl, pa⟩ := perm_map_inv pm (f := V.ref) rfl
    obtain ⟨Rs, pR, pr⟩ := paired_perm pa pr3
    have g45 := Off.g hp4 o5
    have pr5 : Paired (SheetAt K H5) as' Rs := L2.Paired.mapP pr fun _ _ h => (h.s ((ers_same _ _).trans s4)).g g45
    have lR : as'.length = Rs.length := pr5.length
    have apart : Rs.Pairwise Apart := (pR.pairwise_iff fun {a b} h => fun y hy hy' => h y hy' hy).mpr (parts_apart S)
    have inR : ∀ R ∈ Rs, R ∈ partsOf S := fun R m => pR.mem_iff.mp m
    have o05 : Off p H H5 := (Off.of (s02.trans s24)).trans o5
    refine ⟨q', rfl, ⟨_, sqR eq5⟩, ?_⟩
    refine forG (wk_list (K := K) (H1 := H5) (f := V.ref) (sqR eq5) (good_refs as')) (fun i σ H' => ∃ (w : Addr) (y3 y4 : Option V), σ = [some (.ref p), some (.ref a), some (.ref w), y3, y4] ∧ Same H5 H' ∧ SheetAt K H' w (subS S (inAny (Rs.take i))))
      ⟨x, _, _, rfl, .refl _, (hx2.s s24).g g45⟩ (fun i σ H' ⟨_, _, _, _, s, _⟩ => s.g) ?_ ?_
    · rintro i z v σ H6 H7 ez ⟨w, y3, y4, rfl, s6, hw⟩ sm rfl
      have s7 := s6.trans sm
      have hw7 := hw.s sm
      obtain ⟨R, eR, hR⟩ : ∃ R, Rs[i]? = some R ∧ SheetAt K H5 z R := by
        have hi : i < Rs.length := by
          have := (List.getElem?_eq_some_iff.mp ez).1
          omega
        refine ⟨Rs[i], List.getElem?_eq_getElem hi, ?_⟩
        obtain ⟨z', e1, h⟩ := pget pr5 (List.getElem?_eq_getElem hi)
        rw [ez] at e1
        cases e1
        exact h
      have hR7 := hR.s s7
      have mR := inR R (List.mem_of_getElem? eR)
      have tk : Rs.take (i + 1) = Rs.take i ++ [R] := by rw [List.take_add_one, eR]; rfl
      have inT : ∀ T ∈ Rs.take i, T ∈ partsOf S := fun T m => inR T (List.mem_of_mem_take m)
      have ap : ∀ T ∈ Rs.take i, Apart T R := fun T m => by
        have h1 : (Rs.take (i + 1)).Pairwise Apart := apart.sublist (List.take_sublist _ _)
        rw [tk] at h1
        exact (List.pairwise_append.mp h1).2.2 T m R List.mem_cons_self
      have eqR := part_sub va mR
      have dj := any_disj (S := S) ap
      have cl := any_closed va inT
      have clR : ∀ p ∈ S.ln, decide (p.1 ∈ R.lv.flatten) = true → decide (p.2 ∈ R.lv.flatten) = true := fun p hp e => decide_eq_true (part_closed va mR hp (of_decide_eq_true e))
      have tl : (subS S (inAny (Rs.take i))).lv.length = R.lv.length := by
        rw [parts_tall mR]
        unfold subS
        rw [List.length_map]
      have orv := sub_or_valid va dj cl clR
      have ore := sub_or hup va dj
      rw [← eqR] at orv ore
      refine ⟨.ref w, rfl, .ref z, rfl, w, z, rfl, rfl, hw7.ins, hR7.ins, w, z, _, R, rfl, hw7, hR7, tl, fun y hy hy' => ?_, .inr (part_some mR), ?_, orv, fun H8 x8 s8 f8 h8 => ?_⟩
      · have := dj y (sub_nodes.mp hy).1 (sub_nodes.mp hy).2
        exact (of_decide_eq_false this) hy'
      · have := (sub_valid va _ cl).flat
        omega
      · rw [ore, ← inAny_snoc, ← tk] at h8
        exact ⟨x8, _, _, rfl, s7.trans s8, h8.s (dropL_same _ _)⟩
    · rintro σ H6 ⟨w, y3, y4, rfl, s6, hw⟩
      rw [lR, List.take_length] at hw
      have all : subS S (inAny Rs) = S := subS_all va fun y hy => by
        obtain ⟨R, m, h⟩ := parts_cover hy
        exact inAny_iff.mpr ⟨R, pR.mem_iff.mpr m, h⟩
      rw [all] at hw
      have hS6 : SheetAt K H6 a S := ((hS.s (s02.trans s24)).g g45).s s6
      refine ⟨.ref w, rfl, .ref a, rfl, w, a, rfl, rfl, hw.ins, hS6.ins, w, a, S, S, rfl, hw, hS6, ⟨va.nmLv, va.nmLn⟩, ⟨va.nmLv, va.nmLn⟩, ?_⟩
      rw [decide_eq_true rfl]
      exact q H6 (o05.trans (Off.of s6)) (hp5.s s6)
end
end U

set_option linter.all false
set_option maxRecDepth 100000
set_option maxHeartbeats 2000000
/-! Plans that come of plans. -/
namespace U
open PySem PySem.Spec PyProof.Rows L2 UR
theorem zip_flat : ∀ {l m : Lv}, l.length = m.length → (List.zipWith (· ++ ·) l m).flatten.Perm (l.flatten ++ m.flatten)
  | [], [], _ => .nil
  | r :: l, s :: m, e => by
    rw [List.zipWith_cons_cons, List.flatten_cons, List.flatten_cons, List.flatten_cons]
    have ih := zip_flat (l := l) (m := m) (by simpa using e)
    refine ((List.Perm.refl (r ++ s)).append ih).trans ?_
    rw [List.append_assoc, List.append_assoc]
    refine (List.Perm.refl r).append ?_
    rw [← List.append_assoc, ← List.append_assoc]
    exact List.perm_append_comm.append_right _
theorem valid_zip {rows rows2 : Lv} {ls ls2 : Ln} (v : Valid rows ls) (v2 : Valid rows2 ls2) (e : rows.length = rows2.length) (d : ∀ x ∈ rows.flatten, x ∉ rows2.flatten) (wd : ∀ r ∈ rows, ∀ s ∈ rows2, r.length + s.length ≤ 18) (fw : ls.length + ls2.length ≤ 200) :
    Valid (List.zipWith (· ++ ·) rows rows2) (ls ++ ls2) where
  ne := fun h => by
    have := congrArg List.length h
    rw [List.length_zipWith, ← e, Nat.min_self] at this
    exact v.ne (List.eq_nil_of_length_eq_zero this)
  tall := by rw [List.length_zipWith, ← e, Nat.min_self]; exact v.tall
  wide := fun r m => by
    rw [zw] at m
    obtain ⟨z, hz, rfl⟩ := List.mem_map.mp m
    rw [List.length_append]
    exact wd _ (List.of_mem_zip (a := z.1) (b := z.2) hz).1 _ (List.of_mem_zip (a := z.1) (b := z.2) hz).2
  names := fun r m x hx => by
    rw [zw] at m
    obtain ⟨z, hz, rfl⟩ := List.mem_map.mp m
    rcases List.mem_append.mp hx with h | h
    · exact v.names _ (List.of_mem_zip (a := z.1) (b := z.2) hz).1 x h
    · exact v2.names _ (List.of_mem_zip (a := z.1) (b := z.2) hz).2 x h
  nd := (zip_flat e).nodup_iff.mpr (List.nodup_append.mpr ⟨v.nd, v2.nd, fun x hx y hy h => d x hx (h ▸ hy)⟩)
  few := by rw [List.length_append]; exact fw
  lnd := List.nodup_append.mpr ⟨v.lnd, v2.lnd, fun x hx y hy h => d x.1 (ln_nodes v hx).1 (h ▸ (ln_nodes v2 hy).1)⟩
  ok := fun p m => by
    rcases List.mem_append.mp m with m | m
    · obtain ⟨i, r, r', h1, h2, m1, m2⟩ := v.ok p m
      have l1 := (List.getElem?_eq_some_iff.mp h1).1
      have l2 := (List.getElem?_eq_some_iff.mp h2).1
      exact ⟨i, r ++ rows2[i], r' ++ rows2[i + 1], by rw [List.getElem?_zipWith, h1, List.getElem?_eq_getElem (by omega)], by rw [List.getElem?_zipWith, h2, List.getElem?_eq_getElem (by omega)], List.mem_append_left _ m1, List.mem_append_left _ m2⟩
    · obtain ⟨i, r, r', h1, h2, m1, m2⟩ := v2.ok p m
      have l1 := (List.getElem?_eq_some_iff.mp h1).1
      have l2 := (List.getElem?_eq_some_iff.mp h2).1
      exact ⟨i, rows[i] ++ r, rows[i + 1] ++ r', by rw [List.getElem?_zipWith, h1, List.getElem?_eq_getElem (by omega)], by rw [List.getElem?_zipWith, h2, List.getElem?_eq_getElem (by omega)], List.mem_append_right _ m1, List.mem_append_right _ m2⟩
theorem Beside.left {rows : Lv} {p : Str × Str} (h : Beside rows p) (more : Lv) : Beside (rows ++ more) p := by
  obtain ⟨i, r, r', h1, h2, m⟩ := h
  have l1 := (List.getElem?_eq_some_iff.mp h1).1
  have l2 := (List.getElem?_eq_some_iff.mp h2).1
  exact ⟨i, r, r', by rw [List.getElem?_append_left l1]; exact h1, by rw [List.getElem?_append_left l2]; exact h2, m⟩
theorem Beside.right {rows : Lv} {p : Str × Str} (h : Beside rows p) (more : Lv) : Beside (more ++ rows) p := by
  obtain ⟨i, r, r', h1, h2, m⟩ := h
  refine ⟨more.length + i, r, r', ?_, ?_, m⟩
  · rw [List.getElem?_append_right (Nat.le_add_right _ _), Nat.add_sub_cancel_left]; exact h1
  · rw [List.getElem?_append_right (by omega), show more.length + i + 1 - more.length = i + 1 by omega]; exact h2
theorem valid_app {rows rows2 : Lv} {ls ls2 : Ln} (v : Valid rows ls) (v2 : Valid rows2 ls2) (d : ∀ x ∈ rows.flatten, x ∉ rows2.flatten) (tl : rows.length + rows2.length ≤ 12) (fw : ls.length + ls2.length ≤ 200) :
    Valid (rows ++ rows2) (ls ++ ls2) where
  ne := fun h => v.ne (List.append_eq_nil_iff.mp h).1
  tall := by rw [List.length_append]; exact tl
  wide := fun r m => by
    rcases List.mem_append.mp m with m | m
    · exact v.wide r m
    · exact v2.wide r m
  names := fun r m => by
    rcases List.mem_append.mp m with m | m
    · exact v.names r m
    · exact v2.names r m
  nd := by
    rw [List.flatten_append]
    exact List.nodup_append.mpr ⟨v.nd, v2.nd, fun x hx y hy h => d x hx (h ▸ hy)⟩
  few := by rw [List.length_append]; exact fw
  lnd := List.nodup_append.mpr ⟨v.lnd, v2.lnd, fun x hx y hy h => d x.1 (ln_nodes v hx).1 (h ▸ (ln_nodes v2 hy).1)⟩
  ok := fun p m => by
    rcases List.mem_append.mp m with m | m
    · exact (v.ok p m).left _
    · exact (v2.ok p m).right _
theorem valid_level {rows : Lv} {ls : Ln} (v : Valid rows ls) (tl : rows.length + 1 ≤ 12) : Valid (rows ++ [[]]) ls := by
  have := valid_app v (rows2 := [[]]) (ls2 := []) (empty_valid (n := 1) (by decide) (by decide)) (fun x _ h => by simp at h) tl (by simpa using v.few)
  rwa [List.append_nil] at this
theorem rev_get {α : Type} {l : List α} {i : Nat} {r : α} (h : l[i]? = some r) : l.reverse[l.length - 1 - i]? = some r := by
  have li := (List.getElem?_eq_some_iff.mp h).1
  rw [List.getElem?_reverse (by omega), show l.length - 1 - (l.length - 1 - i) = i by omega]
  exact h
theorem valid_rev {rows : Lv} {ls : Ln} (v : Valid rows ls) : Valid rows.reverse (ls.map fun p => (p.2, p.1)) where
  ne := by simpa using v.ne
  tall := by rw [List.length_reverse]; exact v.tall
  wide := fun r m => v.wide r (List.mem_reverse.mp m)
  names := fun r m => v.names r (List.mem_reverse.mp m)
  nd := (List.Perm.flatten (List.reverse_perm rows)).nodup_iff.mpr v.nd
  few := by rw [List.length_map]; exact v.few
  lnd := List.pairwise_map.mpr (v.lnd.imp fun n e => n (by injection e with a b; exact Prod.ext b a))
  ok := fun p m => by
    obtain ⟨z, hz, rfl⟩ := List.mem_map.mp m
    obtain ⟨i, r, r', h1, h2, m1, m2⟩ := v.ok z hz
    have l2 := (List.getElem?_eq_some_iff.mp h2).1
    exact ⟨rows.length - 1 - (i + 1), r', r, rev_get h2, by rw [show rows.length - 1 - (i + 1) + 1 = rows.length - 1 - i by omega]; exact rev_get h1, m2, m1⟩
theorem valid_lines {rows : Lv} {ls ls' : Ln} (v : Valid rows ls) (fw : ls'.length ≤ 200) (nd : ls'.Nodup) (ok : ∀ p ∈ ls', Beside rows p) : Valid rows ls' := ⟨v.ne, v.tall, v.wide, v.names, v.nd, fw, nd, ok⟩
theorem valid_node {r0 : List Str} {rest : Lv} {ls : Ln} {x : Str} (v : Valid (r0 :: rest) ls) (hx : nameOk x = true) (n : x ∉ (r0 :: rest).flatten) (w : r0.length + 1 ≤ 18) : Valid ((r0 ++ [x]) :: rest) ls where
  ne := fun h => by cases h
  tall := v.tall
  wide := fun r m => by
    rcases List.mem_cons.mp m with rfl | m
    · rw [List.length_append]; exact w
    · exact v.wide r (List.mem_cons_of_mem _ m)
  names := fun r m y hy => by
    rcases List.mem_cons.mp m with rfl | m
    · rcases List.mem_append.mp hy with h | h
      · exact v.names r0 List.mem_cons_self y h
      · cases List.mem_singleton.mp h; exact hx
    · exact v.names r (List.mem_cons_of_mem _ m) y hy
  nd := by
    have p : ((r0 ++ [x]) :: rest).flatten.Perm (x :: (r0 :: rest).flatten) := by
      rw [List.flatten_cons, List.flatten_cons, List.append_assoc]
      exact List.perm_middle
    exact p.nodup_iff.mpr (List.nodup_cons.mpr ⟨n, v.nd⟩)
  few := v.few
  lnd := v.lnd
  ok := fun p m => by
    obtain ⟨i, r, r', h1, h2, m1, m2⟩ := v.ok p m
    cases i with
    | zero =>
      simp at h1
      subst h1
      exact ⟨0, r0 ++ [x], r', rfl, by simpa using h2, List.mem_append_left _ m1, m2⟩
    | succ i => exact ⟨i + 1, r, r', by simpa using h1, by simpa using h2, m1, m2⟩
/-! ### the sheet aside -/
def asideR (n : Nat) : Lv := (List.range n).map fun i => [num "q" i]
def besideL (n : Nat) : Ln := (List.range (n / 2)).map fun i => (num "q" (2 * i), num "q" (2 * i + 1))
theorem aside_ok : ∀ n ∈ [1, 2, 3, 4, 5, 6], asideR n ≠ [] ∧ (asideR n).length = n ∧ (∀ r ∈ asideR n, r.length = 1) ∧ (∀ r ∈ asideR n, ∀ x ∈ r, nameOk x = true) ∧ (asideR n).flatten.Nodup ∧ (besideL n).length ≤ 3 ∧ (besideL n).Nodup ∧ (∀ p ∈ besideL n, p ∈ allLines (asideR n)) ∧ (∀ x ∈ (asideR n).flatten, x ∉ poolN) := by decide +kernel
theorem qq_ok : nameOk "qq" = true ∧ ("qq" : Str) ∉ poolN := by decide +kernel
theorem six {n : Nat} (h0 : 0 < n) (h : n ≤ 6) : n ∈ [1, 2, 3, 4, 5, 6] := by
  have : n = 1 ∨ n = 2 ∨ n = 3 ∨ n = 4 ∨ n = 5 ∨ n = 6 := by omega
  rcases this with rfl | rfl | rfl | rfl | rfl | rfl <;> simp
theorem aside_valid {n : Nat} (h0 : 0 < n) (h : n ≤ 6) : Valid (asideR n) (besideL n) := by
  obtain ⟨a1, a2, a3, a4, a5, a6, a7, a8, a9⟩ := aside_ok n (six h0 h)
  exact ⟨a1, by omega, fun r m => by rw [a3 r m]; decide, a4, a5, by omega, a7, fun p m => mem_allLines.mp (a8 p m)⟩
end U

set_option linter.all false
set_option maxRecDepth 100000
set_option maxHeartbeats 8000000
/-! The law's walks, tenth part: sheets that come of the sheet. -/
namespace U
open PySem PySem.Spec PyProof.Rows L2 UR
/-- a sheet and its plain data -/
def OtherAt (K : PySem.W.Frag) (H : Hp) (z : Addr) : Prop := ∃ n t rows ls, H z = some (.tup [.ref n, .ref t]) ∧ SheetAt K H n (mkSh rows ls) ∧ PlanAt H t rows ls ∧ Valid rows ls
theorem PlanAt.s {H H' : Hp} {t : Addr} {rows : Lv} {ls : Ln} (h : PlanAt H t rows ls) (s : Same H H') : PlanAt H' t rows ls := let ⟨A, B, e, a, b⟩ := h; ⟨A, B, s _ _ e, a.s s, b.s s⟩
theorem OtherAt.s {K : PySem.W.Frag} {H H' : Hp} {z : Addr} (h : OtherAt K H z) (s : Same H H') : OtherAt K H' z := let ⟨n, t, rows, ls, e, a, b, v⟩ := h; ⟨n, t, rows, ls, s _ _ e, a.s s, b.s s, v⟩
theorem RowP.app : ∀ {a a' b b' : Lv}, RowP a a' → RowP b b' → RowP (a ++ b) (a' ++ b')
  | _, _, _, _, .nil, k => k
  | _, _, _, _, .cons h t, k => .cons h (RowP.app t k)
theorem ers_updne {f z : Addr} {H : Hp} {o : HO} (h : z ≠ f) : ers f (upd H z o) = upd (ers f H) z o := by
  funext b
  by_cases e : b = f
  · subst e
    rw [ers_at, upd_ne (Ne.symm h), ers_at]
  · rw [ers_ne e]
    by_cases e2 : b = z
    · rw [e2, upd_same, upd_same]
    · rw [upd_ne e2, upd_ne e2, ers_ne e]
theorem ers_none {f z : Addr} {H : Hp} (h : H z = none) : (ers f H) z = none := by
  by_cases e : z = f
  · rw [e, ers_at]
  · rw [ers_ne e]; exact h
/-- what is found so far -/
structure Fd (K : PySem.W.Frag) (H : Hp) (f : Addr) (Hc : Hp) (ts : List Addr) : Prop where
  same : Same H (ers f Hc)
  at_ : Hc f = some (.lst (ts.map V.ref))
  all : ∀ z ∈ ts, OtherAt K (ers f Hc) z
theorem Fd.s {K : PySem.W.Frag} {H Hc Hd : Hp} {f : Addr} {ts : List Addr} (h : Fd K H f Hc ts) (s : Same Hc Hd) : Fd K H f Hd ts := ⟨h.same.trans (s.ers f), s _ _ h.at_, fun z m => (h.all z m).s (s.ers f)⟩
theorem Fd.add {K : PySem.W.Frag} {H Hc : Hp} {f z : Addr} {ts : List Addr} (h : Fd K H f Hc ts) (o : OtherAt K (ers f Hc) z) : Fd K H f (upd Hc f (.lst (ts.map V.ref ++ [.ref z]))) (ts ++ [z]) := by
  refine ⟨by rw [ers_upd]; exact h.same, by rw [upd_same, List.map_append]; rfl, fun y m => ?_⟩
  rw [ers_upd]
  rcases List.mem_append.mp m with m | m
  · exact h.all y m
  · cases List.mem_singleton.mp m
    exact o
theorem Fd.hp {K : PySem.W.Frag} {H Hc : Hp} {f : Addr} {ts : List Addr} (h : Fd K H f Hc ts) : Same H Hc := h.same.trans (ers_same _ _)
theorem Fd.ne {K : PySem.W.Frag} {H Hc : Hp} {f z : Addr} {ts : List Addr} (h : Fd K H f Hc ts) (n : Hc z = none) : z ≠ f := fun e => by
  rw [e, h.at_] at n; cases n
theorem RowP.rev : ∀ {a b : Lv}, RowP a b → RowP a.reverse b.reverse
  | _, _, .nil => .nil
  | _, _, .cons h t => by
    rw [List.reverse_cons, List.reverse_cons]
    exact RowP.app (RowP.rev t) (.cons h .nil)
theorem RowP.zip : ∀ {a a' b b' : Lv}, RowP a a' → RowP b b' → RowP (List.zipWith (· ++ ·) a b) (List.zipWith (· ++ ·) a' b')
  | _, _, _, _, .nil, _ => by simp; exact .nil
  | _, _, _, _, .cons h t, .nil => by simp; exact .nil
  | _, _, _, _, .cons h t, .cons h' t' => .cons (h.append h') (RowP.zip t t')
theorem RowP.filt (f : Str → Bool) : ∀ {a b : Lv}, RowP a b → RowP (a.map fun r => r.filter f) (b.map fun r => r.filter f)
  | _, _, .nil => .nil
  | _, _, .cons h t => .cons (h.filter f) (RowP.filt f t)
theorem rg_ok : ∀ n ∈ [1, 2, 3, 4, 5, 6], L2.RgC 1 ((n : Nat) : Int) 2 (n / 2) := by
  unfold L2.RgC
  decide +kernel
theorem LTp.lt {H : Hp} {a : Addr} {qs : List (Addr × Str × Str)} (h : LTp H a qs) : LT H a (qs.map (·.2)) := ⟨qs, rfl, h⟩
theorem plan_new {H : Hp} {t A B : Addr} {rows : Lv} {ls : Ln} (ht : H t = none) (hA : LL H A rows) (hB : LT H B ls) : PlanAt (upd H t (.tup [.ref A, .ref B])) t rows ls := ⟨A, B, upd_same, hA.s (same_new ht), hB.s (same_new ht)⟩
theorem other_new {K : PySem.W.Frag} {H : Hp} {z n t : Addr} {rows : Lv} {ls : Ln} (hz : H z = none) (hn : SheetAt K H n (mkSh rows ls)) (ht : PlanAt H t rows ls) (v : Valid rows ls) : OtherAt K (upd H z (.tup [.ref n, .ref t])) z :=
  ⟨n, t, rows, ls, upd_same, hn.s (same_new hz), ht.s (same_new hz), v⟩
theorem Fd.put {K : PySem.W.Frag} {H Hc Hd : Hp} {f n N M t z : Addr} {ts : List Addr} {rows : Lv} {ls : Ln} (h : Fd K H f Hc ts) (s : Same Hc Hd) (hn : SheetAt K (ers f Hd) n (mkSh rows ls)) (hA : LL (ers f Hd) N rows) (hB : LT (ers f Hd) M ls) (v : Valid rows ls)
    (ht : Hd t = none) (hz : (upd Hd t (.tup [.ref N, .ref M])) z = none) : (upd (upd Hd t (.tup [.ref N, .ref M])) z (.tup [.ref n, .ref t])) f = some (.lst (ts.map V.ref)) ∧
      Fd K H f (upd (upd (upd Hd t (.tup [.ref N, .ref M])) z (.tup [.ref n, .ref t])) f (.lst (ts.map V.ref ++ [.ref z]))) (ts ++ [z]) := by
  have hd := h.s s
  have nt := hd.ne ht
  have h1 := hd.s (same_new ht (o := .tup [.ref N, .ref M]))
  have nz := h1.ne hz
  have h2 := h1.s (same_new hz (o := .tup [.ref n, .ref t]))
  refine ⟨h2.at_, h2.add ?_⟩
  have hz' := ers_none (f := f) hz
  rw [ers_updne nt] at hz'
  rw [ers_updne nz, ers_updne nt]
  exact other_new hz' (hn.s (same_new (ers_none ht))) (plan_new (ers_none ht) hA hB) v
/-- rows and more rows, by their places -/
theorem LLp.cat {H : Hp} {a b N : Addr} {ps qs : List (Addr × List Str)} (h : LLp H a ps) (k : LLp H b qs) (hN : H N = none) : LL (upd H N (.lst ((ps.map fun p => V.ref p.1) ++ qs.map fun p => V.ref p.1))) N (ps.map (·.2) ++ qs.map (·.2)) := by
  refine ⟨ps ++ qs, by rw [List.map_append], by rw [upd_same, List.map_append], fun z hz => ?_⟩
  rcases List.mem_append.mp hz with m | m
  · exact (h.2 z m).s (same_new hN)
  · exact (k.2 z m).s (same_new hN)
theorem LTp.cat {H : Hp} {a b N : Addr} {ps qs : List (Addr × Str × Str)} (h : LTp H a ps) (k : LTp H b qs) (hN : H N = none) : LT (upd H N (.lst ((ps.map fun p => V.ref p.1) ++ qs.map fun p => V.ref p.1))) N (ps.map (·.2) ++ qs.map (·.2)) := by
  refine ⟨ps ++ qs, by rw [List.map_append], by rw [upd_same, List.map_append], fun z hz => ?_⟩
  rcases List.mem_append.mp hz with m | m
  · exact (h.2 z m).s (same_new hN)
  · exact (k.2 z m).s (same_new hN)
section
variable {P : Program} {w : World} {K : PySem.W.Frag} {mg : Str → Option Value} {base : Heap} (T : TX K mg)
include T
def sp_law_others (K : PySem.W.Frag) : Sp := fun vs H Q _ => ∃ (p a t : Addr) (rows : Lv) (ls : Ln), vs = [.ref p, .ref a, .ref t] ∧ SheetAt K H a (mkSh rows ls) ∧ PlanAt H t rows ls ∧ Plan rows ls ∧
  ∀ H' f (ts : List Addr), Same H H' → H' f = some (.lst (ts.map V.ref)) → ts.length ≤ 10 → (∀ z ∈ ts, OtherAt K H' z) → Q (.ref f) H'
theorem f_law_others : Fn P w K mg base 26 (fA K "_law_others") (sp_law_others K) [] := by
  obtain ⟨fd, F⟩ := dd_law_others T
  have nd := sc_law_others.nd
  refine fnD F (F.bindsN fun _ _ _ _ _ _ us hl => match us, hl with | [_, _, _], _ => rfl) sc_law_others (fun vs H Q E h => ?_) (fun cdv A outer s H vs Q E hr h => ?_)
  · obtain ⟨p, a, t, rows, ls, rfl, _⟩ := h; rfl
  · obtain ⟨p, a, t, rows, ls, rfl, hS, hP, pl, q⟩ := h
    have hu65 := hu65_of hr
    refine ⟨_, PSs.nox ((pss_cons (ps_asg (pv 2) (k_gtup (K := K) (n := 2) rfl rfl (pgs_cons (pg_name (i := 3) nd rfl (by first | exact Or.inl rfl | exact Or.inr rfl)) (pgs_cons (pg_name (i := 4) nd rfl (by first | exact Or.inl rfl | exact Or.inr rfl)) pgs_nil))))
  (pss_cons (ps_setLc (own := [("_law_at", 6)]) (g := gName 6) (tt := tYes) (i := 5) rfl nd rfl rfl (sw_true rfl rfl rfl (by decide +kernel)) (pi_range1 rfl (b_range T) (pa_cons (pe_callB (k_len (K := K) rfl) rfl (b_len T) PySem.boot_len (pa_cons (pv 3) pa_nil)) pa_nil)) (blkOk_by (by rfl)) (fun _ _ _ _ _ => (pg_name (i := 6) nd rfl (by first | exact Or.inl rfl | exact Or.inr rfl))) (fun _ _ _ _ _ => pts_nil) (fun _ _ _ _ _ => (pe_lst (pa_cons (pe_op op_add_str pe_str (pe_callTy call_str_int rfl (b_str T) (by decide +kernel) (pa_cons (pv 6) pa_nil))) pa_nil))))
  (pss_cons (ps_setLc (own := [("_law_at", 6)]) (g := gName 6) (tt := tYes) (i := 7) rfl nd rfl rfl (sw_true rfl rfl rfl (by decide +kernel)) (pi_range3 rfl (b_range T) (pa_cons pe_int (pa_cons (pe_callB (k_len (K := K) rfl) rfl (b_len T) PySem.boot_len (pa_cons (pv 3) pa_nil)) (pa_cons pe_int pa_nil)))) (blkOk_by (by rfl)) (fun _ _ _ _ _ => (pg_name (i := 6) nd rfl (by first | exact Or.inl rfl | exact Or.inr rfl))) (fun _ _ _ _ _ => pts_nil) (fun _ _ _ _ _ => (pe_tup (pa_cons (pe_op op_add_str pe_str (pe_callTy call_str_int rfl (b_str T) (by decide +kernel) (pa_cons (pe_op op_sub (pv 6) pe_int) pa_nil))) (pa_cons (pe_op op_add_str pe_str (pe_callTy call_str_int rfl (b_str T) (by decide +kernel) (pa_cons (pv 6) pa_nil))) pa_nil)))))
  (pss_cons (ps_asg (pe_lst (pa_cons (pe_tup (pa_cons (pe_m0 (f_S_with_level T) hr (by decide) (cls T) (m_S_with_level T) (pv 1)) (pa_cons (pe_tup (pa_cons (pe_op op_cat (pv 3) (pe_lst (pa_cons (pe_lst pa_nil) pa_nil))) (pa_cons (pv 4) pa_nil))) pa_nil))) (pa_cons (pe_tup (pa_cons (pe_m (f_S_with_node T) hr (by decide) (cls T) (m_S_with_node T) (pv 1) (pa_cons pe_int (pa_cons pe_str pa_nil))) (pa_cons (pe_tup (pa_cons (pe_op op_cat (pe_lst (pa_cons (pe_op op_cat (pe_ix (k_ixl (K := K) rfl) (pv 3) pe_int (fun _ _ => rfl)) (pe_lst (pa_cons pe_str pa_nil))) pa_nil)) (pe_slice (k_slice (K := K) rfl) (pv 3) (po_some pe_int) po_none)) (pa_cons (pv 4) pa_nil))) pa_nil))) pa_nil))) (pg_name (i := 8) nd rfl (by first | exact Or.inl rfl | exact Or.inr rfl)))
  (pss_cons (ps_expr (k_bm (K := K) rfl PySem.F.plainAttrs_list PySem.F.slot_list_append PySem.F.type_list_append mt_append (pv 8) (pa_cons (pe_tup (pa_cons (pe_un (un_inv_own (f_S_invert T) (hr.mono (by decide)) (m_S_invert T)) (pv 1)) (pa_cons (pe_tup (pa_cons (k_rev (K := K) rfl (pv 3)) (pa_cons (pe_lc (own := [("_law_low", 9), ("_law_high", 10)]) (tt := tYes) rfl nd (k_ilist (K := K) rfl (pv 4)) (blkOk_by (by rfl)) (fun _ _ _ _ _ => (k_gtup (K := K) (n := 2) rfl rfl (pgs_cons (pg_name (i := 9) nd rfl (by first | exact Or.inl rfl | exact Or.inr rfl)) (pgs_cons (pg_name (i := 10) nd rfl (by first | exact Or.inl rfl | exact Or.inr rfl)) pgs_nil)))) (fun _ _ _ _ _ => pts_nil) (fun _ _ _ _ _ => (pe_tup (pa_cons (pv 10) (pa_cons (pv 9) pa_nil))))) pa_nil))) pa_nil))) pa_nil)))
  (pss_cons (ps_setLc (own := [("_law_row", 12), ("_law_near", 13)]) (tt := tYes) (i := 11) rfl nd rfl rfl (sw_true rfl rfl rfl (by decide +kernel)) (k_izip (K := K) rfl rfl (b_zip T) (pa_cons (pv 3) (pa_cons (pv 5) pa_nil))) (blkOk_by (by rfl)) (fun _ _ _ _ _ => (k_gtup (K := K) (n := 2) rfl rfl (pgs_cons (pg_name (i := 12) nd rfl (by first | exact Or.inl rfl | exact Or.inr rfl)) (pgs_cons (pg_name (i := 13) nd rfl (by first | exact Or.inl rfl | exact Or.inr rfl)) pgs_nil)))) (fun _ _ _ _ _ => pts_nil) (fun _ _ _ _ _ => (pe_op op_cat (pv 12) (pv 13))))
  (pss_cons (ps_expr (k_bm (K := K) rfl PySem.F.plainAttrs_list PySem.F.slot_list_append PySem.F.type_list_append mt_append (pv 8) (pa_cons (pe_tup (pa_cons (pe_op (op_own (f_S_or T) (hr.mono (by decide)) (x_first T) (m_S_or T)) (pv 1) (pe_n (mk T) (f_S_init T) hr (by decide) rfl (g_Sheet T) (pa_cons (pv 5) (pa_cons (pv 7) pa_nil)))) (pa_cons (pe_tup (pa_cons (pv 11) (pa_cons (pe_op op_cat (pv 4) (pv 7)) pa_nil))) pa_nil))) pa_nil)))
  (pss_cons (ps_expr (k_bm (K := K) rfl PySem.F.plainAttrs_list PySem.F.slot_list_append PySem.F.type_list_append mt_append (pv 8) (pa_cons (pe_tup (pa_cons (pe_op (op_own (f_S_rshift T) (hr.mono (by decide)) (x_first T) (m_S_rshift T)) (pv 1) (pe_n (mk T) (f_S_init T) hr (by decide) rfl (g_Sheet T) (pa_cons (pv 5) (pa_cons (pv 7) pa_nil)))) (pa_cons (pe_tup (pa_cons (pe_op op_cat (pv 3) (pv 5)) (pa_cons (pe_op op_cat (pv 4) (pv 7)) pa_nil))) pa_nil))) pa_nil)))
  (pss_cons (ps_for PassesOwn.never rfl (k_ilist (K := K) rfl (pe_slice (k_slice (K := K) rfl) (pv 4) po_none (po_some pe_int))) (pg_name (i := 14) nd rfl (by first | exact Or.inl rfl | exact Or.inr rfl))
  (pss_one (ps_expr (k_bm (K := K) rfl PySem.F.plainAttrs_list PySem.F.slot_list_append PySem.F.type_list_append mt_append (pv 8) (pa_cons (pe_tup (pa_cons (pe_op (op_own_tup (f_S_sub T) (hr.mono (by decide)) (x_first T) (m_S_sub T) (x_rsub T) (.inl rfl) tup_sub tup_rsub (x_sub T)) (pv 1) (pv 14)) (pa_cons (pe_tup (pa_cons (pv 3) (pa_cons (pe_lc (own := [("_law_near", 13)]) (g := gName 13) rfl nd (k_ilist (K := K) rfl (pv 4)) (blkOk_by (by rfl)) (fun _ _ _ _ _ => (pg_name (i := 13) nd rfl (by first | exact Or.inl rfl | exact Or.inr rfl))) (fun _ _ _ _ _ => (pts_one (pt_cmpR (k_neD (K := K) rfl hr.units) (pv 13) (pv 14) (nomark _)))) (fun _ _ _ _ _ => (pv 13))) pa_nil))) pa_nil))) pa_nil)))))
  (pss_cons (ps_asg (pe_slice (k_slice (K := K) rfl) (pe_lc (own := [("_law_one", 14)]) (g := gName 14) rfl nd (k_ilist (K := K) rfl (pe_f (f_law_all_lines T) hr (by decide) rfl (g_law_all_lines T) (kp_law_all_lines T) (pa_cons (pv 3) pa_nil))) (blkOk_by (by rfl)) (fun _ _ _ _ _ => (pg_name (i := 14) nd rfl (by first | exact Or.inl rfl | exact Or.inr rfl))) (fun _ _ _ _ _ => (pts_one (pt_cmpR (k_notinD (K := K) rfl hu65) (pv 14) (pv 4) (by with_unfolding_all rfl)))) (fun _ _ _ _ _ => (pv 14))) po_none (po_some pe_int)) (pg_name (i := 15) nd rfl (by first | exact Or.inl rfl | exact Or.inr rfl)))
  (pss_cons (ps_expr (k_bm (K := K) rfl PySem.F.plainAttrs_list PySem.F.slot_list_append PySem.F.type_list_append mt_append (pv 8) (pa_cons (pe_tup (pa_cons (pe_m (f_S_joined T) hr (by decide) (cls T) (m_S_joined T) (pv 1) (pa_cons (pv 15) pa_nil)) (pa_cons (pe_tup (pa_cons (pv 3) (pa_cons (pe_op op_cat (pv 4) (pv 15)) pa_nil))) pa_nil))) pa_nil)))
  (pss_cons (ps_for PassesOwn.never rfl (k_ilist (K := K) rfl (pe_slice (k_slice (K := K) rfl) (pe_callTy (k_listOwn (K := K) rfl (f_S_iter T) (f_S_len T) rfl (hr.mono (by decide)) (m_S_iter T) (m_S_len T)) rfl (b_list T) (by decide +kernel) (pa_cons (pv 1) pa_nil)) po_none (po_some pe_int))) (pg_name (i := 16) nd rfl (by first | exact Or.inl rfl | exact Or.inr rfl))
  (pss_cons (ps_setLc (own := [("_law_one", 14)]) (g := gName 14) (i := 17) rfl nd rfl rfl (sw_true rfl rfl rfl (by decide +kernel)) (k_ilist (K := K) rfl (pv 4)) (blkOk_by (by rfl)) (fun _ _ _ _ _ => (pg_name (i := 14) nd rfl (by first | exact Or.inl rfl | exact Or.inr rfl))) (fun _ _ _ _ _ => (pts_one (pt_cmpR (k_notin (K := K) rfl) (pv 16) (pv 14) (by with_unfolding_all rfl)))) (fun _ _ _ _ _ => (pv 14)))
  (pss_one (ps_expr (k_bm (K := K) rfl PySem.F.plainAttrs_list PySem.F.slot_list_append PySem.F.type_list_append mt_append (pv 8) (pa_cons (pe_tup (pa_cons (pe_m (f_S_without_node T) hr (by decide) (cls T) (m_S_without_node T) (pv 1) (pa_cons (pv 16) pa_nil)) (pa_cons (pe_tup (pa_cons (pe_lc (own := [("_law_row", 12)]) (g := gName 12) (tt := tYes) rfl nd (k_ilist (K := K) rfl (pv 3)) (blkOk_by (by rfl)) (fun _ _ _ _ _ => (pg_name (i := 12) nd rfl (by first | exact Or.inl rfl | exact Or.inr rfl))) (fun _ _ _ _ _ => pts_nil) (fun _ _ _ _ _ => (pe_lc (own := [("_law_near", 13)]) (g := gName 13) rfl nd (k_ilist (K := K) rfl (pv 12)) (blkOk_by (by rfl)) (fun _ _ _ _ _ => (pg_name (i := 13) nd rfl (by first | exact Or.inl rfl | exact Or.inr rfl))) (fun _ _ _ _ _ => (pts_one (pt_cmpR op_ne (pv 13) (pv 16) (nomark _)))) (fun _ _ _ _ _ => (pv 13))))) (pa_cons (pv 17) pa_nil))) pa_nil))) pa_nil))))))
  (pss_one (ps_ret (pv 8)))))))))))))))), ?_⟩
    obtain ⟨A', B, et, ⟨ps, ep, eA, hps⟩, ⟨qs, eq, eB, hqs⟩⟩ := id hP
    have va := pl.valid
    have vS := va.srt
    have hup := mkSh_up rows ls
    have rp : RowP (mkSh rows ls).lv rows := rowP_srt rows
    have lp : (mkSh rows ls).ln.Perm ls := srtL_perm ls
    generalize mkSh rows ls = S at hS hup rp lp
    obtain ⟨dx, A1, B1, D1, E1, F1, G1, kf, kg, ex, _⟩ := id hS
    have tall := pl.tall
    have lrows : rows.length = ps.length := by rw [ep, List.length_map]
    have pos : 0 < rows.length := List.length_pos_iff.mpr pl.ne
    have few := pl.few
    have lls : ls.length = qs.length := by rw [eq, List.length_map]
    refine ⟨.ref t, rfl, t, _, rfl, .inl (.inl et), rfl, _, _, rfl, _, _, rfl, rfl, ?_⟩
    -- the sheet aside
    refine ⟨.ref A', rfl, A', _, rfl, .inl (sqR eA), _, rfl, by rw [List.length_map]; omega, by rw [List.length_map]; omega, fun L hL => ?_⟩
    refine lcG (wk_range 0 _) hL (sz64' (by rw [List.length_range, List.length_map]; omega)) (fun _ => true) (fun i y G => ∃ t, y = .ref t ∧ LS G t [num "q" i]) (fun z y G G' g ⟨t, e, h⟩ => ⟨t, e, h.s g⟩) (fun i hi v H' Nx sN _ ⟨acc, eacc⟩ e _ yes no => ?_) (fun H1 ys s1 eL pp => ?_)
    · subst e
      refine ⟨rfl, tyes (iteT ?_)⟩
      rw [List.length_map, Int.toNat_natCast] at hi
      have hi' := List.mem_range.mp hi
      refine ⟨.int (0 + (i : Nat)), rfl, _, rfl, by rw [Int.zero_add]; exact log_small (by omega), _, _, rfl, rfl, ?_, ?_⟩
      · rw [Int.zero_add]
        have := num_len "q" i (List.mem_range.mpr (by omega))
        unfold num at this
        rw [strLen_append] at this
        exact Nat.le_trans this (by decide)
      · refine ⟨by show 1 ≤ sizeLine; exact sz64 (by decide), fun t ht => ?_⟩
        have nt : t ≠ L := fun e => by rw [e, eacc] at ht; cases ht
        rw [Int.zero_add]
        exact yes _ _ rfl (same_new ht) ⟨t, rfl, (ers_ne nt).trans upd_same⟩
    rw [filter_yes] at pp
    have hLL : LL H1 L (asideR rows.length) := by
      have h := LL.made (gg := fun i : Nat => [num "q" i]) (L2.Paired.mapP pp fun z y ⟨t, e, h⟩ => ⟨t, e, h.s (ers_same _ _)⟩) eL
      rw [List.length_map, Int.toNat_natCast, ← lrows] at h
      exact h
    have s1' := s1.trans (ers_same _ _)
    clear s1 pp eL
    -- its lines
    have cnt : L2.RgC 1 (((ps.map fun p => V.ref p.1).length : Nat) : Int) 2 (rows.length / 2) := by
      rw [List.length_map, ← lrows]
      exact rg_ok _ (six pos tall)
    refine ⟨.ref A', rfl, A', _, rfl, .inl (sqR (s1' _ _ eA)), 1, _, 2, _, rfl, cnt, fun M hM => ?_⟩
    refine lcG (wk_rangeC 1 2 (rows.length / 2)) hM (sz64' (by rw [List.length_range]; omega)) (fun _ => true) (fun i y G => ∃ t, y = .ref t ∧ UR.TP G t (num "q" (2 * i), num "q" (2 * i + 1))) (fun z y G G' g ⟨t, e, h⟩ => ⟨t, e, h.s g⟩) (fun i hi v H' Nx sN _ ⟨acc, eacc⟩ e _ yes no => ?_) (fun H2 ys s2 eM pp => ?_)
    · subst e
      refine ⟨rfl, tyes (iteT ?_)⟩
      have hi' := List.mem_range.mp hi
      have e1 : (1 : Int) + (i : Nat) * 2 - 1 = ((2 * i : Nat) : Int) := by omega
      have e2 : (1 : Int) + (i : Nat) * 2 = ((2 * i + 1 : Nat) : Int) := by omega
      have z : ∀ k, k < 40 → (("q" : Str)).length + ((toString (((k : Nat) : Int)) : Str)).length ≤ sizeLine := fun k hk => by
        have := num_len "q" k (List.mem_range.mpr hk)
        unfold num at this
        rw [strLen_append] at this
        exact Nat.le_trans this (by decide)
      refine ⟨.int (1 + (i : Nat) * 2), rfl, _, _, rfl, rfl, _, rfl, by rw [e1]; exact log_small (by omega), _, _, rfl, rfl, by rw [e1]; exact z _ (by omega), .int (1 + (i : Nat) * 2), rfl, _, rfl, by rw [e2]; exact log_small (by omega), _, _, rfl, rfl, by rw [e2]; exact z _ (by omega), by show 2 ≤ sizeLine; decide, fun t ht => ?_⟩
      have nt : t ≠ M := fun e => by rw [e, eacc] at ht; cases ht
      refine yes _ _ rfl (same_new ht) ⟨t, rfl, (ers_ne nt).trans ?_⟩
      rw [upd_same, e1, e2]
      rfl
    rw [filter_yes] at pp
    have hLM : LT H2 M (besideL rows.length) := LT.made (gg := fun i : Nat => (num "q" (2 * i), num "q" (2 * i + 1))) (L2.Paired.mapP pp fun z y ⟨t, e, h⟩ => ⟨t, e, h.s (ers_same _ _)⟩) eM
    have hLL2 := hLL.s (s2.trans (ers_same _ _))
    have s2' := s1'.trans (s2.trans (ers_same _ _))
    clear s2 pp eM hLL
    -- with a level more
    have hPL : LLp H A' ps := ⟨eA, hps⟩
    have hPT : LTp H B qs := ⟨eB, hqs⟩
    have hLT : LT H B ls := ⟨qs, eq, hPT⟩
    have v1 : Valid (rows ++ [[]]) ls := valid_level va (by omega)
    have vS1 : Valid (S.lv ++ [[]]) S.ln := valid_perm v1 (show RowP (rows ++ [[]]) (S.lv ++ [[]]) from RowP.app rp.symm (RowP.rfl' _)) lp.symm
    have mk1 : mkSh (S.lv ++ [[]]) S.ln = mkSh (rows ++ [[]]) ls := mkSh_perm (show RowP (S.lv ++ [[]]) (rows ++ [[]]) from RowP.app rp (RowP.rfl' _)) lp
    refine ⟨.ref a, rfl, a, dx, _, rfl, s2' _ _ ex, rfl, a, S, rfl, hS.s s2', vS1, fun H3 x s3 f3 h3 => ?_⟩
    rw [mk1] at h3
    have h3' := h3.s (dropL_same _ _)
    have s03 := s2'.trans s3
    refine ⟨.ref A', rfl, Nat.zero_le _, fun e he => ⟨by show 1 ≤ sizeLine; exact sz64 (by decide), fun o ho => ?_⟩⟩
    have se := same_new he (o := .lst [])
    have so := same_new ho (o := .lst [.ref e])
    have s04 := s03.trans (se.trans so)
    have hPo : LLp (upd (upd H3 e (.lst [])) o (.lst [.ref e])) o [(e, [])] := ⟨upd_same, fun z hz => by cases List.mem_singleton.mp hz; exact so _ _ upd_same⟩
    refine ⟨A', o, _, _, rfl, rfl, s04 _ _ eA, upd_same, by rw [List.length_map]; exact sz64 (by show _ + 1 ≤ _; omega), fun N hN => ?_⟩
    have hN1 := LLp.cat (hPL.s s04) hPo hN
    rw [← ep] at hN1
    have sN := same_new hN (o := .lst (ps.map (fun p => V.ref p.1) ++ [.ref e]))
    refine ⟨.ref B, rfl, by show 2 ≤ sizeLine; decide, fun t1 ht1 => ?_⟩
    have hp1 := plan_new ht1 hN1 (hLT.s (s04.trans sN))
    have st1 := same_new ht1 (o := .tup [.ref N, .ref B])
    refine ⟨by show 2 ≤ sizeLine; decide, fun z1 hz1 => ?_⟩
    have s35 := (se.trans so).trans (sN.trans st1)
    have o1 := other_new hz1 (h3'.s s35) hp1 v1
    have sz1 := same_new hz1 (o := .tup [.ref x, .ref t1])
    have s05 := s03.trans (s35.trans sz1)
    have s25 := s3.trans (s35.trans sz1)
    generalize upd (upd (upd (upd (upd H3 e (.lst [])) o (.lst [.ref e])) N (.lst (ps.map (fun p => V.ref p.1) ++ [.ref e]))) t1 (.tup [.ref N, .ref B])) z1 (.tup [.ref x, .ref t1]) = H5 at o1 s05 s25 ⊢
    clear hz1 hp1 ht1 hN1 hN hPo ho he st1 s35 sN s04 se so sz1 h3' h3 s03 s3 f3
    -- with a node more
    obtain ⟨z0, ps', rfl⟩ : ∃ z0 ps', ps = z0 :: ps' := by
      cases ps with
      | nil => rw [lrows] at pos; cases pos
      | cons z0 ps' => exact ⟨z0, ps', rfl⟩
    have er : rows = z0.2 :: ps'.map (·.2) := ep
    obtain ⟨s0, srest, esv, p0, prest⟩ : ∃ s0 srest, S.lv = s0 :: srest ∧ s0.Perm z0.2 ∧ RowP srest (ps'.map (·.2)) := by
      have := rp
      rw [er] at this
      revert this
      generalize S.lv = q
      rintro (_ | ⟨h, t⟩)
      exact ⟨_, _, rfl, h, t⟩
    have nq : ("qq" : Str) ∉ rows.flatten := fun h => qq_ok.2 (pl.pool _ h)
    have nqS : ("qq" : Str) ∉ S.lv.flatten := fun h => nq (rp.flat.mem_iff.mp h)
    have v2 : Valid ((z0.2 ++ [("qq" : Str)]) :: ps'.map (·.2)) ls := valid_node (by have h := va; rw [er] at h; exact h) qq_ok.1 (by have h := nq; rw [er] at h; exact h) (by have := pl.wide z0.2 (by rw [er]; exact List.mem_cons_self); omega)
    have rp2 : RowP ((s0 ++ [("qq" : Str)]) :: srest) ((z0.2 ++ [("qq" : Str)]) :: ps'.map (·.2)) := .cons (p0.append_right _) prest
    have vS2 : Valid ((s0 ++ [("qq" : Str)]) :: srest) S.ln := valid_perm v2 rp2.symm lp.symm
    have mk2 := mkSh_perm rp2 lp
    refine ⟨.ref a, rfl, a, dx, _, rfl, s05 _ _ ex, rfl, a, S, "qq", s0, srest, rfl, hS.s s05, esv, by rw [Paired.length rp]; omega, qq_ok.1, nqS, vS2, fun H6 x2 s6 f6 h6 => ?_⟩
    rw [mk2] at h6
    have h6' := h6.s (dropL_same _ _)
    have s06 := s05.trans s6
    refine ⟨.ref A', rfl, A', _, 0, .ref z0.1, rfl, rfl, sqR (s06 _ _ eA), atI_nat (j := 0) rfl, by show 1 ≤ sizeLine; exact sz64 (by decide), fun e he => ?_⟩
    have se := same_new he (o := .lst [.str "qq"])
    have hz0 : LS (upd H6 e (.lst [.str "qq"])) z0.1 z0.2 := (hps z0 List.mem_cons_self).s (s06.trans se)
    refine ⟨z0.1, e, _, _, rfl, rfl, hz0, upd_same, by rw [List.length_map]; have := pl.wide z0.2 (by rw [er]; exact List.mem_cons_self); exact sz64 (by show _ + 1 ≤ _; omega), fun o ho => ?_⟩
    have so := same_new ho (o := .lst (z0.2.map V.str ++ [.str "qq"]))
    have ho2 : LS (upd (upd H6 e (.lst [.str "qq"])) o (.lst (z0.2.map V.str ++ [.str "qq"]))) o (z0.2 ++ [("qq" : Str)]) := by
      show upd _ _ _ _ = _
      rw [upd_same, List.map_append]
      rfl
    refine ⟨by show 1 ≤ sizeLine; exact sz64 (by decide), fun O hO => ?_⟩
    have sO := same_new hO (o := .lst [.ref o])
    have s07 := s06.trans (se.trans (so.trans sO))
    refine ⟨.ref A', rfl, 1, rfl, A', _, rfl, sqR (s07 _ _ eA), fun c hc => ?_⟩
    have sc := same_new hc (o := .lst (cutV ((z0 :: ps').map fun p => V.ref p.1) (some 1) none))
    have s08 := s07.trans sc
    refine ⟨O, c, _, _, rfl, rfl, sc _ _ upd_same, upd_same, ?_, fun N hN => ?_⟩
    · rw [cut_drop, List.length_drop, List.length_map]
      exact sz64 (by show 1 + _ ≤ _; omega)
    have hLO : LLp (upd (upd (upd (upd H6 e (.lst [.str "qq"])) o (.lst (z0.2.map V.str ++ [.str "qq"]))) O (.lst [.ref o])) c (.lst (cutV ((z0 :: ps').map fun p => V.ref p.1) (some 1) none))) O [(o, z0.2 ++ [("qq" : Str)])] :=
      ⟨sc _ _ upd_same, fun z hz => by cases List.mem_singleton.mp hz; exact (ho2.s sO).s sc⟩
    have hLc : LLp (upd (upd (upd (upd H6 e (.lst [.str "qq"])) o (.lst (z0.2.map V.str ++ [.str "qq"]))) O (.lst [.ref o])) c (.lst (cutV ((z0 :: ps').map fun p => V.ref p.1) (some 1) none))) c ps' :=
      ⟨by rw [upd_same, cut_drop]; rfl, fun z hz => (hps z (List.mem_cons_of_mem _ hz)).s s08⟩
    have hN2 := LLp.cat hLO hLc hN
    have hsub : (cutV ((z0 :: ps').map fun p => V.ref p.1) (some 1) none) = ps'.map fun p => V.ref p.1 := by rw [cut_drop]; rfl
    rw [hsub] at hN hN2 hLO hLc s08 sc ⊢
    have sN := same_new hN (o := .lst ([.ref o] ++ ps'.map fun p => V.ref p.1))
    refine ⟨.ref B, rfl, by show 2 ≤ sizeLine; decide, fun t2 ht2 => ?_⟩
    have hp2 := plan_new ht2 hN2 (hLT.s (s08.trans sN))
    have st2 := same_new ht2 (o := .tup [.ref N, .ref B])
    refine ⟨by show 2 ≤ sizeLine; decide, fun z2 hz2 => ?_⟩
    have s69 := (se.trans (so.trans sO)).trans (sc.trans (sN.trans st2))
    have o2 := other_new hz2 (h6'.s s69) hp2 v2
    have sz2 := same_new hz2 (o := .tup [.ref x2, .ref t2])
    have s5a := s6.trans (s69.trans sz2)
    have o1 := o1.s s5a
    have s0a := s05.trans s5a
    refine ⟨by show 2 ≤ sizeLine; decide, fun f hf => ?_⟩
    have fd0 : Fd K H2 f (upd (upd (upd (upd (upd (upd (upd (upd H6 e (.lst [.str "qq"])) o (.lst (z0.2.map V.str ++ [.str "qq"]))) O (.lst [.ref o])) c (.lst (ps'.map fun p => V.ref p.1))) N (.lst ([.ref o] ++ ps'.map fun p => V.ref p.1))) t2 (.tup [.ref N, .ref B])) z2 (.tup [.ref x2, .ref t2])) f (.lst [.ref z1, .ref z2])) [z1, z2] := by
      refine ⟨by rw [ers_upd, ers_free hf]; exact s25.trans s5a, upd_same, fun z hz => ?_⟩
      rw [ers_upd, ers_free hf]
      rcases List.mem_cons.mp hz with rfl | hz
      · exact o1
      · cases List.mem_singleton.mp hz
        exact o2
    generalize upd (upd (upd (upd (upd (upd (upd (upd H6 e (.lst [.str "qq"])) o (.lst (z0.2.map V.str ++ [.str "qq"]))) O (.lst [.ref o])) c (.lst (ps'.map fun p => V.ref p.1))) N (.lst ([.ref o] ++ ps'.map fun p => V.ref p.1))) t2 (.tup [.ref N, .ref B])) z2 (.tup [.ref x2, .ref t2])) f (.lst [.ref z1, .ref z2]) = Hf at fd0 ⊢
    -- turned round
    have v3 := valid_rev va
    have lp3 := lp.map (fun p : Str × Str => (p.2, p.1))
    have vS3 := valid_perm v3 rp.rev.symm lp3.symm
    have mk3 := mkSh_perm rp.rev lp3
    have sf := s2'.trans fd0.hp
    refine ⟨.ref f, rfl, .inl ⟨rfl, _, sqR fd0.at_⟩, .ref a, rfl, a, rfl, (hS.s sf).ins, a, S, rfl, hS.s sf, vS3, fun H7 x3 s7 f7 h7 => ?_⟩
    rw [mk3] at h7
    have h7f : SheetAt K (ers f H7) x3 (mkSh rows.reverse (ls.map fun p => (p.2, p.1))) := h7.s (dropL_ers (by rw [fd0.at_]; rfl))
    have sf7 := sf.trans s7
    refine ⟨.ref A', rfl, A', _, rfl, sqR (sf7 _ _ eA), fun r hr3 => ?_⟩
    have sr := same_new hr3 (o := .lst ((z0 :: ps').map fun p => V.ref p.1).reverse)
    have fd7 := (fd0.s s7).s sr
    have nr := (fd0.s s7).ne hr3
    have sf8 := sf7.trans sr
    have hr4 : LL (ers f (upd H7 r (.lst ((z0 :: ps').map fun p => V.ref p.1).reverse))) r rows.reverse := by
      refine ⟨(z0 :: ps').reverse, by rw [ep, List.map_reverse], by rw [ers_ne nr, upd_same, List.map_reverse], fun z hz => ?_⟩
      exact (hps z (List.mem_reverse.mp hz)).s (s2'.trans fd7.same)
    have h8f := h7f.s (sr.ers f)
    generalize upd H7 r (.lst ((z0 :: ps').map fun p => V.ref p.1).reverse) = H8 at fd7 sf8 hr4 h8f ⊢
    refine ⟨.ref B, rfl, B, rfl, ⟨_, sqR (sf8 _ _ eB)⟩, fun D hD => ?_⟩
    refine lcG (wk_list (f := fun p : Addr × Str × Str => V.ref p.1) (sqR (sf8 _ _ eB)) (good_ref _ _)) hD (sz64' (by omega)) (fun _ => true) (fun z y G => ∃ t, y = .ref t ∧ t ≠ f ∧ UR.TP G t (z.2.2, z.2.1)) (fun z y G G' g ⟨t, e, n, h⟩ => ⟨t, e, n, h.s g⟩) (fun z hz v H' Nx sN _ ⟨acc, eacc⟩ e _ yes no => ?_) (fun H9 ys s9 eD pp => ?_)
    · subst e
      have tz := (hqs z hz).s (sf8.trans (sN.trans (ers_same _ _)))
      refine ⟨z.1, _, rfl, .inl (.inl tz), rfl, _, _, rfl, _, _, rfl, rfl, rfl, tyes (iteT ⟨.str z.2.2, rfl, .str z.2.1, rfl, by show 2 ≤ sizeLine; decide, fun t ht => ?_⟩)⟩
      have nt : t ≠ D := fun e => by rw [e, eacc] at ht; cases ht
      have ntf := (fd7.s (sN.trans (ers_same _ _))).ne ht
      exact yes _ _ rfl (same_new ht) ⟨t, rfl, ntf, (ers_ne nt).trans upd_same⟩
    rw [filter_yes] at pp
    have s9' := s9.trans (ers_same _ _)
    have fd9 := fd7.s s9'
    have nD := fd7.ne hD
    have hLT9 : LT (ers f H9) D (ls.map fun p => (p.2, p.1)) := by
      have h := LT.made (H := ers f H9) (gg := fun z : Addr × Str × Str => (z.2.2, z.2.1)) (L2.Paired.mapP pp fun z y ⟨t, e, n, h⟩ => ⟨t, e, (ers_ne n).trans ((ers_same _ _) _ _ h)⟩) ((ers_ne nD).trans eD)
      rw [eq, List.map_map]
      exact h
    refine ⟨by show 2 ≤ sizeLine; decide, fun t3 ht3 => ⟨by show 2 ≤ sizeLine; decide, fun z3 hz3 => ?_⟩⟩
    obtain ⟨e3, fd3⟩ := fd9.put (.refl _) (h8f.s (s9'.ers f)) (hr4.s (s9'.ers f)) hLT9 v3 ht3 hz3
    refine ⟨f, _, _, rfl, rfl, e3, by show 2 < sizeLine; decide, ?_⟩
    generalize upd (upd (upd H9 t3 (.tup [.ref r, .ref D])) z3 (.tup [.ref x3, .ref t3])) f (.lst ([z1, z2].map V.ref ++ [.ref z3])) = H10 at fd3 ⊢
    clear e3 hLT9 nD fd9 s9' s9 pp eD hD h8f hr4 sf8 nr fd7 sf7 h7f h7 s7 f7
    have t3len : ([z1, z2] ++ [z3]).length = 3 := rfl
    generalize [z1, z2] ++ [z3] = ts3 at fd3 t3len
    -- side by side with the sheet aside
    obtain ⟨as, eas, eL2, has⟩ := id hLL2
    obtain ⟨bs, ebs, eM2, hbs⟩ := id hLM
    have vA := aside_valid pos tall
    obtain ⟨-, alen, awid, -, -, afew, -, -, apool⟩ := aside_ok _ (six pos tall)
    have las : as.length = rows.length := by rw [eas, List.length_map] at alen; exact alen
    have lbs : bs.length ≤ 3 := by rw [ebs, List.length_map] at afew; exact afew
    have ss := s2'.trans fd3.hp
    refine ⟨.ref A', rfl, .ref L, rfl, A', L, _, _, rfl, sqR (ss _ _ eA), sqR (fd3.hp _ _ eL2), fun W hW => ?_⟩
    refine lcG (wk_zip (f := fun p : Addr × List Str => V.ref p.1) (f2 := fun p : Addr × List Str => V.ref p.1) (sqR (ss _ _ eA)) (good_ref _ _) (sqR (fd3.hp _ _ eL2)) (good_ref _ _)) hW (sz64' (by rw [List.length_zip]; omega)) (fun _ => true) (fun z y G => ∃ t, y = .ref t ∧ t ≠ f ∧ LS G t (z.1.2 ++ z.2.2)) (fun z y G G' g ⟨t, e, n, h⟩ => ⟨t, e, n, h.s g⟩) (fun z hz v H' Nx sN _ ⟨acc, eacc⟩ ⟨t, e, et⟩ _ yes no => ?_) (fun H11 ys s11 eW pp => ?_)
    · subst e
      have sN' := sN.trans (ers_same _ _)
      have mz1 := (List.of_mem_zip (a := z.1) (b := z.2) hz).1
      have mz2 := (List.of_mem_zip (a := z.1) (b := z.2) hz).2
      have hz1 := (hps _ mz1).s (ss.trans sN')
      have hz2 := (has _ mz2).s (fd3.hp.trans sN')
      have w1 := pl.wide z.1.2 (by rw [ep]; exact List.mem_map.mpr ⟨_, mz1, rfl⟩)
      have w2 := awid z.2.2 (by rw [eas]; exact List.mem_map.mpr ⟨_, mz2, rfl⟩)
      refine ⟨t, _, rfl, .inl (.inl et), rfl, _, _, rfl, _, _, rfl, rfl, rfl, tyes (iteT ?_)⟩
      refine ⟨.ref z.1.1, rfl, .ref z.2.1, rfl, z.1.1, z.2.1, _, _, rfl, rfl, hz1, hz2, sz64 (by rw [List.length_map, List.length_map]; omega), fun t ht => ?_⟩
      have nt : t ≠ W := fun e => by rw [e, eacc] at ht; cases ht
      have ntf := (fd3.s sN').ne ht
      exact yes _ _ rfl (same_new ht) ⟨t, rfl, ntf, (ers_ne nt).trans (by rw [upd_same, List.map_append])⟩
    rw [filter_yes] at pp
    have nW := fd3.ne hW
    have s11' := s11.trans (ers_same _ _)
    have fd11 := fd3.s s11'
    have hW11 : LL (ers f H11) W (List.zipWith (· ++ ·) rows (asideR rows.length)) := by
      have h := LL.made (H := ers f H11) (gg := fun z : (Addr × List Str) × (Addr × List Str) => z.1.2 ++ z.2.2) (L2.Paired.mapP pp fun z y ⟨t, e, n, h⟩ => ⟨t, e, (ers_ne n).trans ((ers_same _ _) _ _ h)⟩) ((ers_ne nW).trans eW)
      have e : List.zipWith (· ++ ·) rows (asideR rows.length) = ((z0 :: ps').zip as).map fun z => z.1.2 ++ z.2.2 := by
        conv => lhs; rw [eas, ep]
        rw [List.zipWith_map]
        exact zw _ _
      rw [e]
      exact h
    clear s11 pp eW hW
    have dA : ∀ x ∈ rows.flatten, x ∉ (asideR rows.length).flatten := fun x hx h => apool x h (pl.pool x hx)
    have rpA : RowP (mkSh (asideR rows.length) (besideL rows.length)).lv (asideR rows.length) := rowP_srt _
    have lpA : (mkSh (asideR rows.length) (besideL rows.length)).ln.Perm (besideL rows.length) := srtL_perm _
    have dAS : ∀ x ∈ S.lv.flatten, x ∉ (mkSh (asideR rows.length) (besideL rows.length)).lv.flatten := fun x hx h => dA x (rp.flat.mem_iff.mp hx) (rpA.flat.mem_iff.mp h)
    have neA : (mkSh (asideR rows.length) (besideL rows.length)).lv.flatten ≠ [] := fun e => by
      have h0 := rpA.flat.length_eq
      rw [e] at h0
      have h1 : (asideR rows.length).flatten = [] := List.eq_nil_of_length_eq_zero h0.symm
      have h2 : asideR rows.length ≠ [] := vA.ne
      obtain ⟨r, hr0⟩ := List.exists_mem_of_ne_nil _ h2
      have h3 := awid r hr0
      have h4 := List.flatten_eq_nil_iff.mp h1 r hr0
      rw [h4] at h3
      cases h3
    have v4 := valid_zip va vA alen.symm dA (fun r hr0 s hs => by have := pl.wide r hr0; have := awid s hs; omega) (by omega)
    have rp4 := RowP.zip rp rpA
    have lp4 := lp.append lpA
    have vS4 := valid_perm v4 rp4.symm lp4.symm
    have mk4 := mkSh_perm rp4 lp4
    have v5 := valid_app va vA dA (by omega) (by omega)
    have rp5 := RowP.app rp rpA
    have vS5 := valid_perm v5 rp5.symm lp4.symm
    have mk5 := mkSh_perm rp5 lp4
    have lvS : S.lv.length = rows.length := Paired.length rp
    have lvA : (mkSh (asideR rows.length) (besideL rows.length)).lv.length = rows.length := (Paired.length rpA).trans alen
    have flS : S.lv.flatten.length ≤ 216 := by rw [rp.flat.length_eq]; exact va.flat
    generalize hAS : mkSh (asideR rows.length) (besideL rows.length) = AS at rpA lpA dAS neA rp4 lp4 vS4 mk4 rp5 vS5 mk5 lvA
    have sf := s2'.trans fd11.hp
    refine ⟨.ref f, rfl, .inl ⟨rfl, _, sqR fd11.at_⟩, .ref a, rfl, .ref L, rfl, .ref M, rfl, ?_⟩
    refine mkq2 (hLL2.s fd11.hp) (.inl (hLM.s fd11.hp)) vA fun y H12 s12 f12 hy => ?_
    rw [hAS] at hy
    have hy' := hy.s (dropL_same _ _)
    have fd12 := fd11.s s12
    have hS12 := hS.s (sf.trans s12)
    refine ⟨a, y, rfl, rfl, hS12.ins, hy'.ins, a, y, S, AS, rfl, hS12, hy', lvS.trans lvA.symm, dAS, .inr neA, by omega, vS4, fun H13 x4 s13 f13 h13 => ?_⟩
    rw [mk4] at h13
    have h13f := h13.s (dropL_ers (l := f) (by rw [fd12.at_]; rfl))
    have fd13 := fd12.s s13
    have sg := s2'.trans fd13.hp
    refine ⟨.ref W, rfl, .ref B, rfl, .ref M, rfl, B, M, _, _, rfl, rfl, sg _ _ eB, fd13.hp _ _ eM2, sz64 (by rw [List.length_map, List.length_map]; omega), fun N hN => ⟨by show 2 ≤ sizeLine; decide, fun t4 ht4 => ⟨by show 2 ≤ sizeLine; decide, fun z4 hz4 => ?_⟩⟩⟩
    have sN := same_new hN (o := .lst ((qs.map fun p => V.ref p.1) ++ bs.map fun p => V.ref p.1))
    have nN := fd13.ne hN
    have hcat := LTp.cat (H := ers f H13) (hPT.s (s2'.trans fd13.same)) (LTp.s ⟨eM2, hbs⟩ fd13.same) (ers_none hN)
    rw [← ers_updne nN, ← eq, ← ebs] at hcat
    obtain ⟨e4, fd4⟩ := (fd13.s sN).put (.refl _) (h13f.s (sN.ers f)) (hW11.s ((s12.trans (s13.trans sN)).ers f)) hcat v4 ht4 hz4
    refine ⟨f, _, _, rfl, rfl, e4, by rw [List.length_map, t3len]; show 3 < sizeLine; decide, ?_⟩
    generalize upd (upd (upd (upd H13 N (.lst ((qs.map fun p => V.ref p.1) ++ bs.map fun p => V.ref p.1))) t4 (.tup [.ref W, .ref N])) z4 (.tup [.ref x4, .ref t4])) f (.lst (ts3.map V.ref ++ [.ref z4])) = H14 at fd4 ⊢
    clear e4 hcat nN sN hN ht4 hz4 sg fd13 h13f h13 s13 f13 hS12 fd12 hy' hy s12 f12 sf hW11 fd11 s11' nW ss fd3
    have t4len : (ts3 ++ [z4]).length = 4 := by rw [List.length_append, t3len]; rfl
    generalize ts3 ++ [z4] = ts4 at fd4 t4len
    -- one upon the other
    have sf := s2'.trans fd4.hp
    refine ⟨.ref f, rfl, .inl ⟨rfl, _, sqR fd4.at_⟩, .ref a, rfl, .ref L, rfl, .ref M, rfl, ?_⟩
    refine mkq2 (hLL2.s fd4.hp) (.inl (hLM.s fd4.hp)) vA fun y H12 s12 f12 hy => ?_
    rw [hAS] at hy
    have hy' := hy.s (dropL_same _ _)
    have fd12 := fd4.s s12
    have hS12 := hS.s (sf.trans s12)
    refine ⟨a, y, rfl, rfl, hS12.ins, hy'.ins, a, y, S, AS, rfl, hS12, hy', dAS, .inr neA, by omega, vS5, fun H13 x5 s13 f13 h13 => ?_⟩
    rw [mk5] at h13
    have h13f := h13.s (dropL_ers (l := f) (by rw [fd12.at_]; rfl))
    have fd13 := fd12.s s13
    have sg := s2'.trans fd13.hp
    refine ⟨.ref A', rfl, .ref L, rfl, A', L, _, _, rfl, rfl, sg _ _ eA, fd13.hp _ _ eL2, sz64 (by rw [List.length_map, List.length_map]; omega), fun O hO => ?_⟩
    have sO := same_new hO (o := .lst (((z0 :: ps').map fun p => V.ref p.1) ++ as.map fun p => V.ref p.1))
    have nO := fd13.ne hO
    have hcO := LLp.cat (H := ers f H13) (hPL.s (s2'.trans fd13.same)) (LLp.s ⟨eL2, has⟩ fd13.same) (ers_none hO)
    rw [← ers_updne nO, ← ep, ← eas] at hcO
    have fd13b := fd13.s sO
    have sg2 := s2'.trans fd13b.hp
    refine ⟨.ref B, rfl, .ref M, rfl, B, M, _, _, rfl, rfl, sg2 _ _ eB, fd13b.hp _ _ eM2, sz64 (by rw [List.length_map, List.length_map]; omega), fun N hN => ⟨by show 2 ≤ sizeLine; decide, fun t5 ht5 => ⟨by show 2 ≤ sizeLine; decide, fun z5 hz5 => ?_⟩⟩⟩
    have sN := same_new hN (o := .lst ((qs.map fun p => V.ref p.1) ++ bs.map fun p => V.ref p.1))
    have nN := fd13b.ne hN
    have hcat := LTp.cat (hPT.s (s2'.trans fd13b.same)) (LTp.s ⟨eM2, hbs⟩ fd13b.same) (ers_none hN)
    rw [← ers_updne nN, ← eq, ← ebs] at hcat
    obtain ⟨e5, fd5⟩ := (fd13b.s sN).put (.refl _) (h13f.s ((sO.trans sN).ers f)) (hcO.s (sN.ers f)) hcat v5 ht5 hz5
    refine ⟨f, _, _, rfl, rfl, e5, by rw [List.length_map, t4len]; show 4 < sizeLine; decide, ?_⟩
    generalize upd (upd (upd (upd (upd H13 O (.lst (((z0 :: ps').map fun p => V.ref p.1) ++ as.map fun p => V.ref p.1))) N (.lst ((qs.map fun p => V.ref p.1) ++ bs.map fun p => V.ref p.1))) t5 (.tup [.ref O, .ref N])) z5 (.tup [.ref x5, .ref t5])) f (.lst (ts4.map V.ref ++ [.ref z5])) = H15 at fd5 ⊢
    clear e5 hcat nN sN hN ht5 hz5 sg2 fd13b hcO nO sO hO sg fd13 h13f h13 s13 f13 hS12 fd12 hy' hy s12 f12 sf fd4
    have t5len : (ts4 ++ [z5]).length = 5 := by rw [List.length_append, t4len]; rfl
    generalize ts4 ++ [z5] = ts5 at fd5 t5len
    -- a line less
    have sf := s2'.trans fd5.hp
    refine ⟨.ref B, rfl, 2, rfl, B, _, rfl, sqR (sf _ _ eB), fun c hc => ?_⟩
    have sc := same_new hc (o := .lst (cutV (qs.map fun p => V.ref p.1) none (some 2)))
    have ec : (upd H15 c (.lst (cutV (qs.map fun p => V.ref p.1) none (some 2)))) c = some (.lst ((qs.take 2).map fun p => V.ref p.1)) := by rw [upd_same, cut_two, List.map_take]
    have nc := fd5.ne hc
    have fd5' := fd5.s sc
    generalize upd H15 c (.lst (cutV (qs.map fun p => V.ref p.1) none (some 2))) = H16 at ec fd5' ⊢
    have ecf : (ers f H16) c = some (.lst ((qs.take 2).map fun p => V.ref p.1)) := (ers_ne nc).trans ec
    refine ⟨c, rfl, ⟨_, sqR ec⟩, ?_⟩
    refine forG (wk_list (K := K) (H1 := ers f H16) (f := fun p : Addr × Str × Str => V.ref p.1) (sqR ecf) (good_ref _ _)) (fun i σ H' => ∃ (y13 y14 : Option V) (ts : List Addr), σ = [some (.ref p), some (.ref a), some (.ref t), some (.ref A'), some (.ref B), some (.ref L), none, some (.ref M), some (.ref f), none, none, some (.ref W), none, y13, y14, none, none, none] ∧ Same (ers f H16) (ers f H') ∧ Fd K H2 f H' ts ∧ ts.length = 5 + i)
      ⟨_, _, ts5, rfl, .refl _, fd5', t5len⟩ (fun i σ H' ⟨_, _, _, _, s, _⟩ => (s.trans (ers_same _ _)).g) ?_ ?_
    · rintro i z v σ H17 H18 ez ⟨y13, y14, ts, rfl, s17, fd17, tl17⟩ sm rfl
      have i2 : i < 2 := by
        have := (List.getElem?_eq_some_iff.mp ez).1
        rw [List.length_take] at this
        omega
      have mz : z ∈ qs := List.mem_of_mem_take (List.mem_of_getElem? ez)
      have s18 := s17.trans (sm.ers f)
      have fd18 := fd17.s sm
      have ss := s2'.trans fd18.hp
      have tz := (hqs z mz).s ss
      have mls : z.2 ∈ ls := by rw [eq]; exact List.mem_map.mpr ⟨z, mz, rfl⟩
      have mS : z.2 ∈ S.ln := lp.mem_iff.mpr mls
      have v6 : Valid rows (ls.filter fun l => !decide (l = z.2)) := valid_lines va (Nat.le_trans (List.length_filter_le _ _) va.few) (va.lnd.filter _) fun q hq => va.ok q (List.mem_filter.mp hq).1
      have lp6 := lp.filter fun l => !decide (l = z.2)
      have vS6 := valid_perm v6 rp.symm lp6.symm
      have mk6 := mkSh_perm rp lp6
      have nmS : NmLn S.ln := fun q hq => va.nmLn q (lp.mem_iff.mp hq)
      have hS18 := hS.s ss
      refine ⟨.ref f, rfl, .inl ⟨rfl, _, sqR fd18.at_⟩, .ref a, rfl, .ref z.1, rfl, a, z.1, _, rfl, rfl, hS18.ins, tz, a, z.1, S, z.2, rfl, hS18, tz, nmS, mS, by rw [lp.length_eq]; omega, vS6, fun H19 x6 s19 f19 h19 => ?_⟩
      rw [mk6] at h19
      have h19f := h19.s (dropL_ers (l := f) (by rw [fd18.at_]; rfl))
      have fd19 := fd18.s s19
      have sg := ss.trans s19
      refine ⟨.ref A', rfl, .ref B, rfl, B, rfl, ⟨_, sqR (sg _ _ eB)⟩, fun D hD => ?_⟩
      refine lcG (wk_list (f := fun p : Addr × Str × Str => V.ref p.1) (sqR (sg _ _ eB)) (good_ref _ _)) hD (sz64' (by omega)) (fun u => !decide (u.2 = z.2)) (fun z y _ => y = .ref z.1) (fun _ _ _ _ _ h => h) (fun u hu v H2 Nx sN _ _ e1 _ yes no => ?_) (fun H20 ys s20 eD pD => ?_)
      · subst e1
        have sN' := sg.trans (sN.trans (ers_same _ _))
        have tu := (hqs u hu).s sN'
        have mu : u.2 ∈ ls := by rw [eq]; exact List.mem_map.mpr ⟨u, hu, rfl⟩
        refine ⟨rfl, .ref u.1, rfl, .ref z.1, rfl, encP u.2, encP z.2, TP.dp tu, TP.dp ((hqs z mz).s sN'), shp_P (va.nmLn _ mu), shp_P (va.nmLn _ mls), _, rfl, ?_⟩
        rw [eqv_P]
        by_cases m : u.2 = z.2
        · rw [decide_eq_true m]
          exact iteF (no _ (by rw [decide_eq_true m]; rfl) (.refl _))
        · rw [decide_eq_false m]
          exact iteT ⟨.ref u.1, rfl, yes _ _ (by rw [decide_eq_false m]; rfl) (.refl _) rfl⟩
      have s20' := s20.trans (ers_same _ _)
      have fd20 := fd19.s s20'
      have nD := fd19.ne hD
      have hLT20 : LT (ers f H20) D (ls.filter fun l => !decide (l = z.2)) := by
        have hl := ltp_filt (hPT.s (s2'.trans fd19.same)) (s20'.ers f) ((ers_ne nD).trans eD) pD
        refine ⟨_, ?_, hl⟩
        rw [filt_map (fun l => !decide (l = z.2)), ← eq]
      have hLA : LL (ers f H20) A' rows := ⟨_, ep, hPL.s (s2'.trans fd20.same)⟩
      refine ⟨by show 2 ≤ sizeLine; decide, fun t6 ht6 => ⟨by show 2 ≤ sizeLine; decide, fun z6 hz6 => ?_⟩⟩
      obtain ⟨e6, fd6⟩ := fd20.put (.refl _) (h19f.s (s20'.ers f)) hLA hLT20 v6 ht6 hz6
      refine ⟨f, _, _, rfl, rfl, e6, by rw [List.length_map]; exact sz64' (by omega), _, _, ts ++ [z6], rfl, ?_, fd6, by rw [List.length_append, tl17]; rfl⟩
      rw [ers_upd]
      exact s18.trans ((((s19.trans s20').trans (same_new ht6)).trans (same_new hz6)).ers f)
    · rintro σ H17 ⟨y13, y14, ts, rfl, s17, fd17, tl17⟩
      rw [List.length_take] at tl17
      -- lines more
      have sf := s2'.trans fd17.hp
      refine ⟨.ref A', rfl, A', rows, rfl, ⟨_, ep, (hPL.s sf)⟩, by omega, fun r hr0 => Nat.le_trans (pl.wide r hr0) (by decide), fun H18 w s18 f18 ⟨ws, ews, eW, hws⟩ => ?_⟩
      have alen2 := allLines_len (rows := rows) (by omega) (fun r hr0 => Nat.le_trans (pl.wide r hr0) (by decide))
      have fd18 := fd17.s s18
      have nw := fd17.ne f18
      have sg := sf.trans s18
      have lws : ws.length ≤ 3888 := by
        have := congrArg List.length ews
        rw [List.length_map] at this
        omega
      refine ⟨w, rfl, ⟨_, sqR eW⟩, fun D hD => ?_⟩
      refine lcG (wk_list (K := K) (f := fun p : Addr × Str × Str => V.ref p.1) (sqR eW) (good_ref _ _)) hD (sz64' (by omega)) (fun u => !decide (u.2 ∈ ls)) (fun z y _ => y = .ref z.1) (fun _ _ _ _ _ h => h) (fun u hu v H2 Nx sN _ _ e1 _ yes no => ?_) (fun H20 ys s20 eD pD => ?_)
      · subst e1
        have sN' := sN.trans (ers_same _ _)
        have tu := (hws u hu).s sN'
        have mu : u.2 ∈ allLines rows := by rw [ews]; exact List.mem_map.mpr ⟨u, hu, rfl⟩
        have bu := mem_allLines.mp mu
        have nu : NmP u.2 := ⟨poolN_ok _ (pl.pool _ bu.mem1), poolN_ok _ (pl.pool _ bu.mem2)⟩
        refine ⟨rfl, .ref u.1, rfl, .ref B, rfl, encP u.2, ls.map encP, TP.dp tu, LT.dp (hLT.s (sg.trans sN')), shp_P nu, shp_Ln va.nmLn, _, rfl, ?_⟩
        rw [any_P]
        by_cases m : u.2 ∈ ls
        · rw [decide_eq_true m]
          exact iteF (no _ (by rw [decide_eq_true m]; rfl) (.refl _))
        · rw [decide_eq_false m]
          exact iteT ⟨.ref u.1, rfl, yes _ _ (by rw [decide_eq_false m]; rfl) (.refl _) rfl⟩
      have s20' := s20.trans (ers_same _ _)
      have fd20 := fd18.s s20'
      have hl := ltp_filt ⟨eW, hws⟩ s20' eD pD
      refine ⟨2, rfl, D, _, rfl, sqR hl.1, fun c2 hc2 => ?_⟩
      have sc2 := same_new hc2 (o := .lst (cutV ((ws.filter fun u => !decide (u.2 ∈ ls)).map fun p => V.ref p.1) none (some 2)))
      have hLc : LTp (upd H20 c2 (.lst (cutV ((ws.filter fun u => !decide (u.2 ∈ ls)).map fun p => V.ref p.1) none (some 2)))) c2 ((ws.filter fun u => !decide (u.2 ∈ ls)).take 2) :=
        ⟨by rw [upd_same, cut_two, List.map_take], fun z hz => (hl.2 z (List.mem_of_mem_take hz)).s sc2⟩
      have fdc := fd20.s sc2
      have nc2 := fd20.ne hc2
      have swc := s20'.trans sc2
      generalize upd H20 c2 (.lst (cutV ((ws.filter fun u => !decide (u.2 ∈ ls)).map fun p => V.ref p.1) none (some 2))) = Hg at hLc fdc swc ⊢
      have emore : ((ws.filter fun u => !decide (u.2 ∈ ls)).take 2).map (·.2) = ((allLines rows).filter fun u => !decide (u ∈ ls)).take 2 := by
        rw [List.map_take, filt_map (fun u => !decide (u ∈ ls)), ← ews]
      have hLcf : LTp (ers f Hg) c2 ((ws.filter fun u => !decide (u.2 ∈ ls)).take 2) := by
        refine ⟨(ers_ne nc2).trans hLc.1, fun z hz => ?_⟩
        have h1 := hLc.2 z hz
        have h2 : z.1 ≠ f := ne_of h1 fdc.at_ (fun z => nomatch z)
        exact (ers_ne h2).trans h1
      generalize (ws.filter fun u => !decide (u.2 ∈ ls)).take 2 = ms at hLc hLcf emore
      generalize hmore : ((allLines rows).filter fun u => !decide (u ∈ ls)).take 2 = more at emore
      have m1 : more.Nodup := by rw [← hmore]; exact ((allLines_nd pl.nd).filter _).sublist (List.take_sublist _ _)
      have m2 : ∀ q ∈ more, q ∉ ls ∧ Beside rows q := fun q hq => by
        rw [← hmore] at hq
        obtain ⟨h1, h2⟩ := List.mem_filter.mp (List.mem_of_mem_take hq)
        exact ⟨by simpa using h2, mem_allLines.mp h1⟩
      have m3 : more.length ≤ 2 := by rw [← hmore, List.length_take]; exact Nat.min_le_left _ _
      have m4 : ms.length ≤ 2 := by rw [← List.length_map (f := fun x : Addr × Str × Str => x.2), emore]; exact m3
      clear hl pD eD s20 hD eW hws ews lws s20' fd20 hc2 sc2
      -- lines more in one go
      have v7 : Valid rows (ls ++ more) := valid_lines va (by rw [List.length_append]; omega) (List.nodup_append.mpr ⟨va.lnd, m1, fun x hx y hy h => (m2 y hy).1 (h ▸ hx)⟩) fun q hq => by
        rcases List.mem_append.mp hq with h | h
        · exact va.ok q h
        · exact (m2 q h).2
      have lp7 : (S.ln ++ more).Perm (ls ++ more) := lp.append_right _
      have vS7 := valid_perm v7 rp.symm lp7.symm
      have mk7 := mkSh_perm rp lp7
      have sh := s2'.trans fdc.hp
      have hSh := hS.s sh
      refine ⟨.ref f, rfl, .inl ⟨rfl, _, sqR fdc.at_⟩, .ref a, rfl, a, dx, _, rfl, sh _ _ ex, rfl, .ref c2, rfl, a, c2, S, more, rfl, hSh, ⟨ms, emore.symm, hLc⟩, m1, fun q hq h => (m2 q hq).1 (lp.mem_iff.mp h), vS7, fun H21 x7 s21 f21 h21 => ?_⟩
      rw [mk7] at h21
      have h21f := h21.s (dropL_ers (l := f) (by rw [fdc.at_]; rfl))
      have fd21 := fdc.s s21
      have sk := s2'.trans fd21.hp
      refine ⟨.ref A', rfl, .ref B, rfl, .ref c2, rfl, B, c2, _, _, rfl, rfl, sk _ _ eB, s21 _ _ hLc.1, sz64 (by rw [List.length_map, List.length_map]; omega), fun N hN => ⟨by show 2 ≤ sizeLine; decide, fun t7 ht7 => ⟨by show 2 ≤ sizeLine; decide, fun z7 hz7 => ?_⟩⟩⟩
      have sN := same_new hN (o := .lst ((qs.map fun p => V.ref p.1) ++ ms.map fun p => V.ref p.1))
      have nN := fd21.ne hN
      have hcat := LTp.cat (hPT.s (s2'.trans fd21.same)) (hLcf.s (s21.ers f)) (ers_none hN)
      rw [← ers_updne nN, ← eq, emore] at hcat
      obtain ⟨e7, fd7⟩ := (fd21.s sN).put (.refl _) (h21f.s (sN.ers f)) ⟨_, ep, hPL.s (s2'.trans (fd21.s sN).same)⟩ hcat v7 ht7 hz7
      refine ⟨f, _, _, rfl, rfl, e7, by rw [List.length_map]; exact sz64' (by omega), ?_⟩
      generalize upd (upd (upd (upd H21 N (.lst ((qs.map fun p => V.ref p.1) ++ ms.map fun p => V.ref p.1))) t7 (.tup [.ref A', .ref N])) z7 (.tup [.ref x7, .ref t7])) f (.lst (ts.map V.ref ++ [.ref z7])) = H22 at fd7 ⊢
      have t7len : (ts ++ [z7]).length ≤ 8 := by rw [List.length_append, tl17, List.length_singleton]; omega
      generalize ts ++ [z7] = ts7 at fd7 t7len
      clear e7 hcat nN sN hN ht7 hz7 sk fd21 h21f h21 s21 f21 hSh sh
      -- a node less
      have lvS : S.lv.length = rows.length := Paired.length rp
      have sm2 := s2'.trans fd7.hp
      refine ⟨.ref a, rfl, ?_⟩
      delta tNil
      refine listq (hS.s sm2) (by omega) fun H23 g s23 f23 eg => ?_
      refine ⟨2, rfl, g, _, rfl, sqR eg, fun c3 hc3 => ?_⟩
      have fd23 := fd7.s s23
      have sc3 := same_new hc3 (o := .lst (cutV (S.lv.flatten.map V.str) none (some 2)))
      have ec3 : (upd H23 c3 (.lst (cutV (S.lv.flatten.map V.str) none (some 2)))) c3 = some (.lst ((S.lv.flatten.take 2).map V.str)) := by rw [upd_same, cut_two, List.map_take]
      have nc3 := fd23.ne hc3
      have fd24 := fd23.s sc3
      generalize upd H23 c3 (.lst (cutV (S.lv.flatten.map V.str) none (some 2))) = H24 at ec3 fd24 ⊢
      have ecf3 : (ers f H24) c3 = some (.lst ((S.lv.flatten.take 2).map V.str)) := (ers_ne nc3).trans ec3
      refine ⟨c3, rfl, ⟨_, sqR ec3⟩, ?_⟩
      refine forG (wk_list (K := K) (H1 := ers f H24) (f := V.str) (sqR ecf3) (good_str _)) (fun i σ H' => ∃ (y12 y13 y14 y16 y17 : Option V) (ts : List Addr), σ = [some (.ref p), some (.ref a), some (.ref t), some (.ref A'), some (.ref B), some (.ref L), none, some (.ref M), some (.ref f), none, none, some (.ref W), y12, y13, y14, some (.ref c2), y16, y17] ∧ Same (ers f H24) (ers f H') ∧ Fd K H2 f H' ts ∧ ts.length ≤ 8 + i)
        ⟨_, _, _, _, _, ts7, rfl, .refl _, fd24, t7len⟩ (fun i σ H' ⟨_, _, _, _, _, _, _, s, _⟩ => (s.trans (ers_same _ _)).g) ?_ ?_
      · rintro i x v σ H25 H26 ez ⟨y12, y13, y14, y16, y17, ts, rfl, s25, fd25, tl25⟩ sm rfl
        have i2 : i < 2 := by
          have := (List.getElem?_eq_some_iff.mp ez).1
          rw [List.length_take] at this
          omega
        have mx : x ∈ S.lv.flatten := List.mem_of_mem_take (List.mem_of_getElem? ez)
        have s26 := s25.trans (sm.ers f)
        have fd26 := fd25.s sm
        have ss := s2'.trans fd26.hp
        have v8 : Valid (rows.map fun r => r.filter fun y => !decide (y = x)) (ls.filter fun p => !decide (x ∈ [p.1, p.2])) := valid_sub va _ _ fun p _ h => by
          rw [Bool.not_eq_true', decide_eq_false_iff_not] at h
          rw [Bool.not_eq_true', Bool.not_eq_true', decide_eq_false_iff_not, decide_eq_false_iff_not]
          exact ⟨fun e => h (by rw [e]; simp), fun e => h (by rw [e]; simp)⟩
        have rp8 : RowP (S.lv.map fun r => r.filter fun y => !decide (y = x)) (rows.map fun r => r.filter fun y => !decide (y = x)) := RowP.filt _ rp
        have lp8 := lp.filter fun p => !decide (x ∈ [p.1, p.2])
        have vS8 := valid_perm v8 rp8.symm lp8.symm
        have mk8 := mkSh_perm rp8 lp8
        have vSS : Valid S.lv S.ln := valid_perm va rp.symm lp.symm
        -- the lines that stay
        refine ⟨.ref B, rfl, B, rfl, ⟨_, sqR (ss _ _ eB)⟩, fun D hD => ?_⟩
        refine lcG (wk_list (f := fun p : Addr × Str × Str => V.ref p.1) (sqR (ss _ _ eB)) (good_ref _ _)) hD (sz64' (by omega)) (fun u => !decide (x ∈ [u.2.1, u.2.2])) (fun z y _ => y = .ref z.1) (fun _ _ _ _ _ h => h) (fun u hu v H2 Nx sN _ _ e1 _ yes no => ?_) (fun H27 ys s27 eD pD => ?_)
        · subst e1
          have tu : H2 u.1 = some (.tup ([u.2.1, u.2.2].map V.str)) := (hqs u hu).s (ss.trans (sN.trans (ers_same _ _)))
          refine ⟨rfl, .str x, rfl, .ref u.1, rfl, u.1, _, rfl, .inr (.inl (.inl tu)), rfl, flat_strs _, _, rfl, ?_⟩
          rw [inV_str]
          by_cases m : x ∈ [u.2.1, u.2.2]
          · rw [decide_eq_true m]
            exact iteF (no _ (by rw [decide_eq_true m]; rfl) (.refl _))
          · rw [decide_eq_false m]
            exact iteT ⟨.ref u.1, rfl, yes _ _ (by rw [decide_eq_false m]; rfl) (.refl _) rfl⟩
        have s27' := s27.trans (ers_same _ _)
        have fd27 := fd26.s s27'
        have nD := fd26.ne hD
        have hLT27 : LT (ers f H27) D (ls.filter fun p => !decide (x ∈ [p.1, p.2])) := by
          have hl := ltp_filt (hPT.s (s2'.trans fd26.same)) (s27'.ers f) ((ers_ne nD).trans eD) pD
          refine ⟨_, ?_, hl⟩
          rw [filt_map (fun p : Str × Str => !decide (x ∈ [p.1, p.2])), ← eq]
        clear s27 pD eD hD
        have sk := s2'.trans fd27.hp
        -- the sheet
        refine ⟨.ref f, rfl, .inl ⟨rfl, _, sqR fd27.at_⟩, .ref a, rfl, a, dx, _, rfl, sk _ _ ex, rfl, .str x, rfl, a, S, x, rfl, hS.s sk, vSS, mx, vS8, fun H28 x8 s28 f28 h28 => ?_⟩
        rw [mk8] at h28
        have h28f := h28.s (dropL_ers (l := f) (by rw [fd27.at_]; rfl))
        have fd28 := fd27.s s28
        have sl := s2'.trans fd28.hp
        -- its rows
        refine ⟨.ref A', rfl, A', rfl, ⟨_, sqR (sl _ _ eA)⟩, fun R hR => ?_⟩
        refine lcG (wk_list (f := fun p : Addr × List Str => V.ref p.1) (sqR (sl _ _ eA)) (good_ref _ _)) hR (sz64' (by omega)) (fun _ => true) (fun z y G => ∃ t, y = .ref t ∧ t ≠ f ∧ LS G t (z.2.filter fun y => !decide (y = x))) (fun z y G G' g ⟨t, e, n, h⟩ => ⟨t, e, n, h.s g⟩) (fun z hz v H' Nx sN _ ⟨acc, eacc⟩ e _ yes no => ?_) (fun H29 ys s29 eR pp => ?_)
        · subst e
          have s3 := sN.trans (ers_same _ _)
          have hz1 := (hps _ hz).s (sl.trans s3)
          have wd := pl.wide z.2 (by rw [ep]; exact List.mem_map.mpr ⟨z, hz, rfl⟩)
          refine ⟨rfl, tyes (iteT ⟨.ref z.1, rfl, z.1, rfl, ⟨_, hz1.sq⟩, fun M hM => ?_⟩)⟩
          have nMf := (fd28.s s3).ne hM
          refine lcG (wk_list (f := V.str) hz1.sq (good_str _)) hM (sz64' (by omega)) (fun y => !decide (y = x)) (fun z v _ => v = .str z) (fun _ _ _ _ _ h => h) (fun y hy v H2 Nx2 sN2 _ _ e _ yes2 no2 => ?_) (fun H2 ys2 s4 e4 p4 => ?_)
          · subst e
            refine ⟨rfl, .str y, rfl, .str x, rfl, rfl, _, rfl, ?_⟩
            have hd : (!decide (V.str y = V.str x)) = !decide (y = x) := by simp
            rw [hd]
            by_cases m : y = x
            · rw [decide_eq_true m]
              exact iteF (no2 _ (by rw [decide_eq_true m]; rfl) (.refl _))
            · rw [decide_eq_false m]
              exact iteT ⟨.str y, rfl, yes2 _ _ (by rw [decide_eq_false m]; rfl) (.refl _) rfl⟩
          · have nM : M ≠ R := fun e => by rw [e, eacc] at hM; cases hM
            exact yes _ _ rfl (s4.trans (ers_same _ _)) ⟨M, rfl, nMf, (ers_ne nM).trans (by rw [e4, paired_eq (f := V.str) p4])⟩
        rw [filter_yes] at pp
        have s29' := s29.trans (ers_same _ _)
        have fd29 := fd28.s s29'
        have nR := fd28.ne hR
        have hR29 : LL (ers f H29) R (rows.map fun r => r.filter fun y => !decide (y = x)) := by
          have h := LL.made (H := ers f H29) (gg := fun z : Addr × List Str => z.2.filter fun y => !decide (y = x)) (L2.Paired.mapP pp fun z y ⟨t, e, n, h⟩ => ⟨t, e, (ers_ne n).trans ((ers_same _ _) _ _ h)⟩) ((ers_ne nR).trans eR)
          rw [ep, List.map_map]
          exact h
        refine ⟨.ref D, rfl, by show 2 ≤ sizeLine; decide, fun t8 ht8 => ⟨by show 2 ≤ sizeLine; decide, fun z8 hz8 => ?_⟩⟩
        obtain ⟨e8, fd8⟩ := fd29.put (.refl _) (h28f.s (s29'.ers f)) hR29 (hLT27.s ((s28.trans s29').ers f)) v8 ht8 hz8
        refine ⟨f, _, _, rfl, rfl, e8, by rw [List.length_map]; exact sz64' (by omega), _, _, _, _, _, ts ++ [z8], rfl, ?_, fd8, by rw [List.length_append, List.length_singleton]; omega⟩
        rw [ers_upd]
        exact s26.trans (((((s27'.trans s28).trans s29').trans (same_new ht8)).trans (same_new hz8)).ers f)
      · rintro σ H25 ⟨y12, y13, y14, y16, y17, ts, rfl, s25, fd25, tl25⟩
        rw [List.length_take] at tl25
        exact ⟨.ref f, rfl, q H25 f ts (s2'.trans fd25.hp) fd25.at_ (by omega) fun z hz => (fd25.all z hz).s (ers_same _ _)⟩
end
end U

set_option linter.all false
set_option maxRecDepth 100000
set_option maxHeartbeats 2000000
/-! A line more between two parts; two parts of a way. -/
namespace U
open PySem PySem.Spec PyProof.Rows L2 UR
theorem conn_more {ln : Ln} {a b x y : Str} (h : Conn (ln ++ [(a, b)]) x y) : Conn ln x y ∨ ((Conn ln x a ∨ Conn ln x b) ∧ (Conn ln y a ∨ Conn ln y b)) := by
  induction h with
  | refl => exact .inl (.refl _)
  | @up u v _ m ih =>
    rcases List.mem_append.mp m with m | m
    · rcases ih with ih | ⟨h1, h2⟩
      · exact .inl (.up ih m)
      · have vu : Conn ln v u := .dn (.refl _) m
        exact .inr ⟨h1, h2.imp vu.trans vu.trans⟩
    · cases List.mem_singleton.mp m
      rcases ih with ih | ⟨h1, h2⟩
      · exact .inr ⟨.inl ih, .inr (.refl _)⟩
      · exact .inr ⟨h1, .inr (.refl _)⟩
  | @dn u v _ m ih =>
    rcases List.mem_append.mp m with m | m
    · rcases ih with ih | ⟨h1, h2⟩
      · exact .inl (.dn ih m)
      · have vu : Conn ln u v := .up (.refl _) m
        exact .inr ⟨h1, h2.imp vu.trans vu.trans⟩
    · cases List.mem_singleton.mp m
      rcases ih with ih | ⟨h1, h2⟩
      · exact .inr ⟨.inr ih, .inl (.refl _)⟩
      · exact .inr ⟨h1, .inl (.refl _)⟩
theorem conn_less {ln : Ln} {a b x y : Str} (h : Conn ln x y) : Conn (ln ++ [(a, b)]) x y := h.mono fun _ m => List.mem_append_left _ m
theorem conn_ab (ln : Ln) (a b : Str) : Conn (ln ++ [(a, b)]) a b := .up (.refl _) (List.mem_append_right _ List.mem_cons_self)
theorem conn_touch {ln : Ln} {a b x : Str} (h : Conn ln x a ∨ Conn ln x b) : Conn (ln ++ [(a, b)]) x a := by
  rcases h with h | h
  · exact conn_less h
  · exact (conn_less h).trans (conn_ab ln a b).symm
/-- roots of the classes that are alike -/
theorem roots_alike {ln ln' : Ln} (d : Str → Bool) (h : ∀ x y, d y = true → (Conn ln x y ↔ Conn ln' x y)) : ∀ (l seen : List Str), (roots ln seen l).filter d = (roots ln' seen l).filter d
  | [], _ => by unfold roots; rfl
  | x :: l, seen => by
    have ih := roots_alike d h l (seen ++ [x])
    unfold roots
    by_cases c : d x = true
    · have e : (∃ y ∈ seen, Conn ln y x) ↔ ∃ y ∈ seen, Conn ln' y x := by
        constructor
        · rintro ⟨y, m, k⟩; exact ⟨y, m, (h y x c).mp k⟩
        · rintro ⟨y, m, k⟩; exact ⟨y, m, (h y x c).mpr k⟩
      by_cases k : ∃ y ∈ seen, Conn ln y x
      · rw [if_pos k, if_pos (e.mp k)]; exact ih
      · rw [if_neg k, if_neg fun z => k (e.mpr z), List.filter_cons, List.filter_cons, if_pos c, if_pos c, ih]
    · have drop : ∀ r : List Str, (x :: r).filter d = r.filter d := fun r => by rw [List.filter_cons, if_neg c]
      have e1 : ∀ (g : Ln) (P : Prop) [Decidable P], (if P then roots g (seen ++ [x]) l else x :: roots g (seen ++ [x]) l).filter d = (roots g (seen ++ [x]) l).filter d := fun g P _ => by
        by_cases k : P
        · rw [if_pos k]
        · rw [if_neg k, drop]
      rw [e1, e1]
      exact ih
/-- one root of a class -/
theorem roots_class {ln : Ln} {l : List Str} (d : Str → Bool) (cl : ∀ x y, Conn ln x y → d y = true → d x = true) (one : ∀ x y, d x = true → d y = true → Conn ln x y) (ex : ∃ y ∈ l, d y = true) : ((roots ln [] l).filter d).length = 1 := by
  have ap := (roots_apart (ln := ln) l []).sublist (List.filter_sublist (p := d))
  have al : ∀ x ∈ (roots ln [] l).filter d, d x = true := fun x m => (List.mem_filter.mp m).2
  have ne : (roots ln [] l).filter d ≠ [] := by
    obtain ⟨y, my, dy⟩ := ex
    rcases roots_all (ln := ln) (seen := []) my with ⟨x, m, c⟩ | ⟨x, m, _⟩
    · exact List.ne_nil_of_mem (List.mem_filter.mpr ⟨m, cl x y c dy⟩)
    · cases m
  revert ap al ne
  generalize (roots ln [] l).filter d = L
  rintro ap al ne
  match L, ap, al, ne with
  | [x], _, _, _ => rfl
  | x :: y :: r, ap, al, _ =>
    have := (List.pairwise_cons.mp ap).1 y List.mem_cons_self
    exact (this (one x y (al x List.mem_cons_self) (al y (List.mem_cons_of_mem _ List.mem_cons_self)))).elim
theorem filter_len (d : Str → Bool) (l : List Str) : l.length = (l.filter d).length + (l.filter fun x => !d x).length := by
  induction l with
  | nil => rfl
  | cons x l ih =>
    rw [List.filter_cons, List.filter_cons, List.length_cons]
    by_cases c : d x = true
    · rw [if_pos c, if_neg (by rw [c]; decide), List.length_cons]; omega
    · have c' : d x = false := by simpa using c
      rw [if_neg c, if_pos (by rw [c']; rfl), List.length_cons]; omega
theorem parts_filter {S : Sh} (f : Sh → Bool) (d : Str → Bool) (h : ∀ x ∈ S.lv.flatten, f (restr S x) = d x) : (partsOf S).filter f = ((roots S.ln [] S.lv.flatten).filter d).map (restr S) := by
  unfold partsOf
  rw [List.filter_map]
  congr 1
  refine List.filter_congr fun x m => ?_
  exact h x ((roots_sub _ _ _).mem m)
theorem conn_iff_symm {ln : Ln} {x y : Str} : Conn ln x y ↔ Conn ln y x := ⟨Conn.symm, Conn.symm⟩
open Classical in
theorem bridge {S : Sh} (u : Up S) {a b : Str} (ha : a ∈ S.lv.flatten) (hb : b ∈ S.lv.flatten) (n : ¬ Conn S.ln a b) (p : (a, b) ∉ S.ln) :
    (partsOf (mkSh S.lv (S.ln ++ [(a, b)]))).length + 1 = (partsOf S).length ∧ ((partsOf (mkSh S.lv (S.ln ++ [(a, b)]))).filter fun R => decide ((a, b) ∈ R.ln)).length = 1 ∧
    ((partsOf (mkSh S.lv (S.ln ++ [(a, b)]))).filter fun R => !decide ((a, b) ∈ R.ln)) = (partsOf S).filter fun R => !decide (a ∈ R.lv.flatten) && !decide (b ∈ R.lv.flatten) := by
  generalize hS' : mkSh S.lv (S.ln ++ [(a, b)]) = S'
  have elv : S'.lv = S.lv := by
    rw [← hS']
    exact map_id_of fun r m => srt_id (u.lv r m)
  have eln : S'.ln = srtL (S.ln ++ [(a, b)]) := by rw [← hS']; rfl
  have cS : ∀ {x y}, Conn S'.ln x y ↔ Conn (S.ln ++ [(a, b)]) x y := by rw [eln]; exact conn_srtL
  let d : Str → Bool := fun x => decide (Conn S.ln x a ∨ Conn S.ln x b)
  have dd : ∀ x, d x = true ↔ (Conn S.ln x a ∨ Conn S.ln x b) := fun x => decide_eq_true_iff
  have dn : ∀ x, (!d x) = true ↔ ¬ (Conn S.ln x a ∨ Conn S.ln x b) := fun x => by rw [← dd]; simp
  have alike : ∀ x y, (!d y) = true → (Conn S.ln x y ↔ Conn S'.ln x y) := fun x y h => by
    rw [cS]
    refine ⟨conn_less, fun k => ?_⟩
    rcases conn_more k with k | ⟨_, k⟩
    · exact k
    · exact ((dn y).mp h k).elim
  have same : (roots S.ln [] S.lv.flatten).filter (fun x => !d x) = (roots S'.ln [] S.lv.flatten).filter fun x => !d x := roots_alike _ alike _ _
  have one : ((roots S'.ln [] S.lv.flatten).filter d).length = 1 := by
    refine roots_class d (fun x y c h => (dd x).mpr ?_) (fun x y hx hy => ?_) ⟨a, ha, (dd a).mpr (.inl (.refl _))⟩
    · rcases conn_more (cS.mp c) with k | ⟨k, _⟩
      · exact ((dd y).mp h).imp k.trans k.trans
      · exact k
    · exact cS.mpr ((conn_touch ((dd x).mp hx)).trans (conn_touch ((dd y).mp hy)).symm)
  have two : ((roots S.ln [] S.lv.flatten).filter d).length = 2 := by
    have h1 : ((roots S.ln [] S.lv.flatten).filter fun x => decide (Conn S.ln x a)).length = 1 :=
      roots_class _ (fun x y c h => decide_eq_true (c.trans (of_decide_eq_true h))) (fun x y hx hy => (of_decide_eq_true hx).trans (of_decide_eq_true hy).symm) ⟨a, ha, decide_eq_true (.refl _)⟩
    have h2 : ((roots S.ln [] S.lv.flatten).filter fun x => decide (Conn S.ln x b)).length = 1 :=
      roots_class _ (fun x y c h => decide_eq_true (c.trans (of_decide_eq_true h))) (fun x y hx hy => (of_decide_eq_true hx).trans (of_decide_eq_true hy).symm) ⟨b, hb, decide_eq_true (.refl _)⟩
    have h3 := (filter_or (fun x => decide (Conn S.ln x a)) (fun x => decide (Conn S.ln x b)) (l := roots S.ln [] S.lv.flatten) fun x _ hx => decide_eq_false fun k => n ((of_decide_eq_true hx).symm.trans k)).length_eq
    rw [List.length_append, h1, h2] at h3
    have e : (fun x => decide (Conn S.ln x a) || decide (Conn S.ln x b)) = d := by
      funext x
      show _ = decide _
      rw [Bool.decide_or]
    rw [e] at h3
    exact h3.symm
  have touch : ∀ x, (a, b) ∈ (restr S' x).ln ↔ d x = true := fun x => by
    rw [restr_ln, dd]
    refine ⟨fun h => ?_, fun h => ⟨by rw [eln]; exact mem_srtL.mpr (List.mem_append_right _ List.mem_cons_self), cS.mpr (conn_touch h)⟩⟩
    rcases conn_more (cS.mp h.2) with k | ⟨k, _⟩
    · exact .inl k
    · exact k
  have f1 : (partsOf S').filter (fun R => decide ((a, b) ∈ R.ln)) = ((roots S'.ln [] S'.lv.flatten).filter d).map (restr S') := parts_filter _ d fun x _ => by
    by_cases c : d x = true
    · rw [c]; exact decide_eq_true ((touch x).mpr c)
    · have c' : d x = false := by simpa using c
      rw [c']; exact decide_eq_false fun k => c ((touch x).mp k)
  have f2 : (partsOf S').filter (fun R => !decide ((a, b) ∈ R.ln)) = ((roots S'.ln [] S'.lv.flatten).filter fun x => !d x).map (restr S') := parts_filter _ _ fun x _ => by
    by_cases c : d x = true
    · rw [c, decide_eq_true ((touch x).mpr c)]
    · have c' : d x = false := by simpa using c
      rw [c', decide_eq_false fun k => c ((touch x).mp k)]
  have f3 : (partsOf S).filter (fun R => !decide (a ∈ R.lv.flatten) && !decide (b ∈ R.lv.flatten)) = ((roots S.ln [] S.lv.flatten).filter fun x => !d x).map (restr S) := parts_filter _ _ fun x _ => by
    have e1 : decide (a ∈ (restr S x).lv.flatten) = decide (Conn S.ln x a) := decide_eq_decide.mpr ⟨fun k => (restr_nodes.mp k).2, fun k => restr_nodes.mpr ⟨ha, k⟩⟩
    have e2 : decide (b ∈ (restr S x).lv.flatten) = decide (Conn S.ln x b) := decide_eq_decide.mpr ⟨fun k => (restr_nodes.mp k).2, fun k => restr_nodes.mpr ⟨hb, k⟩⟩
    rw [e1, e2]
    show _ = !decide _
    rw [Bool.decide_or, Bool.not_or]
  refine ⟨?_, by rw [f1, List.length_map, elv]; exact one, ?_⟩
  · unfold partsOf
    rw [List.length_map, List.length_map, elv, filter_len d (roots S'.ln [] S.lv.flatten), filter_len d (roots S.ln [] S.lv.flatten), one, two, same]
    omega
  · rw [f2, f3, elv, same]
    refine List.map_congr_left fun x m => ?_
    have nx := (List.mem_filter.mp m).2
    have cx : ∀ y, Conn S'.ln x y ↔ Conn S.ln x y := fun y => by rw [conn_iff_symm, ← alike y x nx, conn_iff_symm]
    show (⟨S'.lv.map fun r => r.filter fun y => decide (Conn S'.ln x y), S'.ln.filter fun q => decide (Conn S'.ln x q.1)⟩ : Sh) = ⟨S.lv.map fun r => r.filter fun y => decide (Conn S.ln x y), S.ln.filter fun q => decide (Conn S.ln x q.1)⟩
    have e1 : (fun y => decide (Conn S'.ln x y)) = fun y => decide (Conn S.ln x y) := funext fun y => decide_eq_decide.mpr (cx y)
    have e2 : (fun q : Str × Str => decide (Conn S'.ln x q.1)) = fun q => decide (Conn S.ln x q.1) := funext fun q => decide_eq_decide.mpr (cx q.1)
    rw [e1, e2, elv, eln, ← srtL_filter, List.filter_append]
    have e3 : [(a, b)].filter (fun q : Str × Str => decide (Conn S.ln x q.1)) = [] := by
      rw [List.filter_eq_nil_iff]
      intro q hq k
      cases List.mem_singleton.mp hq
      exact (dn x).mp nx (.inl (of_decide_eq_true k))
    rw [e3, List.append_nil, srtL_id (u.ln.filter _)]
open Classical in
/-- a sheet that hangs together is its part -/
theorem parts_whole {S : Sh} (v : Valid S.lv S.ln) {x : Str} (hx : x ∈ S.lv.flatten) (h : ∀ y ∈ S.lv.flatten, Conn S.ln x y) : partsOf S = [S] := by
  have all : ∀ y ∈ S.lv.flatten, ∀ z ∈ S.lv.flatten, Conn S.ln y z := fun y hy z hz => (h y hy).symm.trans (h z hz)
  unfold partsOf
  rcases e : S.lv.flatten with _ | ⟨a, l⟩
  · rw [e] at hx; cases hx
  · have ma : a ∈ S.lv.flatten := by rw [e]; exact List.mem_cons_self
    rw [roots_one fun y hy => all a ma y (by rw [e]; exact List.mem_cons_of_mem _ hy), List.map_cons, List.map_nil, restr_sub]
    rw [subS_all v fun y hy => decide_eq_true (all a ma y hy)]
open Classical in
/-- two parts, side by side -/
theorem two_parts {S P Q : Sh} (u : Up S) (v : Valid S.lv S.ln) (h : partsOf S = [P, Q]) : mkSh (List.zipWith (· ++ ·) P.lv Q.lv) (P.ln ++ Q.ln) = S ∧ Valid (List.zipWith (· ++ ·) P.lv Q.lv) (P.ln ++ Q.ln) ∧
    Apart P Q ∧ P.lv.flatten.length + Q.lv.flatten.length = S.lv.flatten.length := by
  have mP : P ∈ partsOf S := by rw [h]; exact List.mem_cons_self
  have mQ : Q ∈ partsOf S := by rw [h]; exact List.mem_cons_of_mem _ List.mem_cons_self
  have ap : Apart P Q := by
    have := parts_apart S
    rw [h] at this
    exact (List.pairwise_cons.mp this).1 Q List.mem_cons_self
  have eP := part_sub v mP
  have eQ := part_sub v mQ
  have dj : ∀ x ∈ S.lv.flatten, decide (x ∈ P.lv.flatten) = true → decide (x ∈ Q.lv.flatten) = false := fun x _ hx => decide_eq_false (ap x (of_decide_eq_true hx))
  have clP : ∀ p ∈ S.ln, decide (p.1 ∈ P.lv.flatten) = true → decide (p.2 ∈ P.lv.flatten) = true := fun p hp e => decide_eq_true (part_closed v mP hp (of_decide_eq_true e))
  have clQ : ∀ p ∈ S.ln, decide (p.1 ∈ Q.lv.flatten) = true → decide (p.2 ∈ Q.lv.flatten) = true := fun p hp e => decide_eq_true (part_closed v mQ hp (of_decide_eq_true e))
  have or := sub_or u v dj
  have orv := sub_or_valid v dj clP clQ
  rw [← eP, ← eQ] at or orv
  have all : subS S (fun x => decide (x ∈ P.lv.flatten) || decide (x ∈ Q.lv.flatten)) = S := subS_all v fun y hy => by
    obtain ⟨R, m, k⟩ := parts_cover hy
    rw [h] at m
    rw [Bool.or_eq_true]
    rcases List.mem_cons.mp m with rfl | m
    · exact .inl (decide_eq_true k)
    · cases List.mem_singleton.mp m
      exact .inr (decide_eq_true k)
  rw [all] at or
  refine ⟨or, orv, ap, ?_⟩
  have e1 : P.lv.length = Q.lv.length := (parts_tall mP).trans (parts_tall mQ).symm
  have e2 := (zip_flat e1).length_eq
  have e3 := (flat_perm (List.zipWith (· ++ ·) P.lv Q.lv)).length_eq
  have e4 : ((List.zipWith (· ++ ·) P.lv Q.lv).map srt) = S.lv := congrArg Sh.lv or
  rw [e4] at e3
  rw [List.length_append] at e2
  omega
end U

set_option linter.all false
set_option maxRecDepth 100000
set_option maxHeartbeats 2000000
/-! The way of thirty-six nodes. -/
namespace U
open PySem PySem.Spec PyProof.Rows L2 UR
def longA : List Str := (List.range 18).map (num "a")
def longB : List Str := (List.range 18).map (num "b")
def longR : Lv := [longA, longB]
def longL : Ln := ((List.range 18).map fun i => (num "a" i, num "b" i)) ++ (List.range 17).map fun i => (num "a" (i + 1), num "b" i)
def way (j : Nat) : Str := if j % 2 = 0 then num "a" (j / 2) else num "b" (j / 2)
def wayL (j : Nat) : Str × Str := if j % 2 = 0 then (way j, way (j + 1)) else (way (j + 1), way j)
theorem way_even (i : Nat) : way (2 * i) = num "a" i := by
  unfold way
  rw [if_pos (by omega), show 2 * i / 2 = i by omega]
theorem way_odd (i : Nat) : way (2 * i + 1) = num "b" i := by
  unfold way
  rw [if_neg (by omega), show (2 * i + 1) / 2 = i by omega]
theorem wayL_even (i : Nat) : wayL (2 * i) = (num "a" i, num "b" i) := by
  unfold wayL
  rw [if_pos (by omega), way_even, way_odd]
theorem wayL_odd (i : Nat) : wayL (2 * i + 1) = (num "a" (i + 1), num "b" i) := by
  unfold wayL
  rw [if_neg (by omega), way_odd, show 2 * i + 1 + 1 = 2 * (i + 1) by omega, way_even]
theorem mem_longL {p : Str × Str} : p ∈ longL ↔ ∃ j, j < 35 ∧ p = wayL j := by
  unfold longL
  rw [List.mem_append, List.mem_map, List.mem_map]
  constructor
  · rintro (⟨i, hi, rfl⟩ | ⟨i, hi, rfl⟩)
    · have := List.mem_range.mp hi
      exact ⟨2 * i, by omega, (wayL_even i).symm⟩
    · have := List.mem_range.mp hi
      exact ⟨2 * i + 1, by omega, (wayL_odd i).symm⟩
  · rintro ⟨j, hj, rfl⟩
    rcases Nat.mod_two_eq_zero_or_one j with e | e
    · obtain ⟨i, rfl⟩ : ∃ i, j = 2 * i := ⟨j / 2, by omega⟩
      exact .inl ⟨i, List.mem_range.mpr (by omega), (wayL_even i).symm⟩
    · obtain ⟨i, rfl⟩ : ∃ i, j = 2 * i + 1 := ⟨j / 2, by omega⟩
      exact .inr ⟨i, List.mem_range.mpr (by omega), (wayL_odd i).symm⟩
theorem mem_longR {x : Str} : x ∈ longR.flatten ↔ ∃ j, j < 36 ∧ x = way j := by
  have e : longR.flatten = longA ++ longB := by unfold longR; simp
  rw [e, List.mem_append]
  unfold longA longB
  rw [List.mem_map, List.mem_map]
  constructor
  · rintro (⟨i, hi, rfl⟩ | ⟨i, hi, rfl⟩)
    · have := List.mem_range.mp hi
      exact ⟨2 * i, by omega, (way_even i).symm⟩
    · have := List.mem_range.mp hi
      exact ⟨2 * i + 1, by omega, (way_odd i).symm⟩
  · rintro ⟨j, hj, rfl⟩
    rcases Nat.mod_two_eq_zero_or_one j with e | e
    · obtain ⟨i, rfl⟩ : ∃ i, j = 2 * i := ⟨j / 2, by omega⟩
      exact .inl ⟨i, List.mem_range.mpr (by omega), (way_even i).symm⟩
    · obtain ⟨i, rfl⟩ : ∃ i, j = 2 * i + 1 := ⟨j / 2, by omega⟩
      exact .inr ⟨i, List.mem_range.mpr (by omega), (way_odd i).symm⟩
theorem way_nd : ((List.range 36).map way).Nodup := by decide +kernel
theorem way_inj {i j : Nat} (hi : i < 36) (hj : j < 36) (e : way i = way j) : i = j := by
  refine nd_ix way_nd (x := way i) (by rw [List.getElem?_map, List.getElem?_range hi]; rfl) ?_
  rw [List.getElem?_map, List.getElem?_range hj, e]
  rfl
theorem long_nd : longR.flatten.Nodup := by decide +kernel
theorem long_names : ∀ x ∈ longR.flatten, nameOk x = true := List.all_eq_true.mp (by decide +kernel)
theorem long_lens : longA.length = 18 ∧ longB.length = 18 := by
  unfold longA longB
  rw [List.length_map, List.length_map, List.length_range]
  exact ⟨rfl, rfl⟩
theorem longL_len : longL.length = 35 := by
  unfold longL
  rw [List.length_append, List.length_map, List.length_map, List.length_range, List.length_range]
theorem longL_nd : longL.Nodup := by decide +kernel
theorem long_valid : Valid longR longL where
  ne := by unfold longR; simp
  tall := by unfold longR; decide
  wide := fun r m => by
    obtain ⟨h1, h2⟩ := long_lens
    unfold longR at m
    rcases List.mem_cons.mp m with rfl | m
    · omega
    · cases List.mem_singleton.mp m
      omega
  names := fun r m x hx => long_names x (List.mem_flatten.mpr ⟨r, m, hx⟩)
  nd := long_nd
  few := by rw [longL_len]; decide
  lnd := longL_nd
  ok := fun p m => by
    refine ⟨0, longA, longB, rfl, rfl, ?_⟩
    unfold longL at m
    unfold longA longB
    rcases List.mem_append.mp m with m | m
    · obtain ⟨i, hi, rfl⟩ := List.mem_map.mp m
      exact ⟨List.mem_map.mpr ⟨i, hi, rfl⟩, List.mem_map.mpr ⟨i, hi, rfl⟩⟩
    · obtain ⟨i, hi, rfl⟩ := List.mem_map.mp m
      have := List.mem_range.mp hi
      exact ⟨List.mem_map.mpr ⟨i + 1, List.mem_range.mpr (by omega), rfl⟩, List.mem_map.mpr ⟨i, List.mem_range.mpr (by omega), rfl⟩⟩
def longS : Sh := mkSh longR longL
theorem longS_lv : longS.lv = longR.map srt := rfl
theorem longS_mem {p : Str × Str} : p ∈ longS.ln ↔ p ∈ longL := mem_srtL
theorem longS_node {x : Str} : x ∈ longS.lv.flatten ↔ x ∈ longR.flatten := (flat_perm longR).mem_iff
theorem longS_len : longS.lv.flatten.length = 36 := by
  have e : longR.flatten = longA ++ longB := by unfold longR; simp
  rw [longS_lv, (flat_perm longR).length_eq, e, List.length_append, long_lens.1, long_lens.2]
theorem way_step {j : Nat} (hj : j < 35) : Conn longS.ln (way j) (way (j + 1)) := by
  have m : wayL j ∈ longS.ln := longS_mem.mpr (mem_longL.mpr ⟨j, hj, rfl⟩)
  unfold wayL at m
  by_cases e : j % 2 = 0
  · rw [if_pos e] at m; exact .up (.refl _) m
  · rw [if_neg e] at m; exact .dn (.refl _) m
theorem way_all : ∀ {j : Nat}, j < 36 → Conn longS.ln (way 0) (way j)
  | 0, _ => .refl _
  | j + 1, h => (way_all (j := j) (by omega)).trans (way_step (by omega))
theorem long_valS : Valid longS.lv longS.ln := long_valid.srt
theorem long_parts : partsOf longS = [longS] := by
  refine parts_whole long_valS (x := way 0) (longS_node.mpr (mem_longR.mpr ⟨0, by decide, rfl⟩)) fun y hy => ?_
  obtain ⟨j, hj, rfl⟩ := mem_longR.mp (longS_node.mp hy)
  exact way_all hj
/-- with a line less -/
def longT (p : Str × Str) : Sh := mkSh longS.lv (longS.ln.filter fun l => !decide (l = p))
theorem longT_lv (p : Str × Str) : (longT p).lv = longS.lv := map_id_of fun r m => srt_id ((mkSh_up longR longL).lv r m)
theorem longT_ln (p : Str × Str) : (longT p).ln = longS.ln.filter fun l => !decide (l = p) := by
  show srtL _ = _
  exact srtL_id ((mkSh_up longR longL).ln.filter _)
theorem longT_val0 (p : Str × Str) : Valid longS.lv (longS.ln.filter fun l => !decide (l = p)) :=
  valid_lines long_valS (Nat.le_trans (List.length_filter_le _ _) long_valS.few) (long_valS.lnd.filter _) fun q hq => long_valS.ok q (List.mem_filter.mp hq).1
theorem longT_val (p : Str × Str) : Valid (longT p).lv (longT p).ln := (longT_val0 p).srt
/-- on this side of the missing line -/
def near (k : Nat) (x : Str) : Prop := ∃ j, j ≤ k ∧ x = way j
theorem near_way {k j : Nat} (hk : k < 35) (hj : j < 36) : near k (way j) ↔ j ≤ k := by
  constructor
  · rintro ⟨i, hi, e⟩
    have := way_inj hj (by omega) e
    omega
  · exact fun h => ⟨j, h, rfl⟩
theorem near_line {k : Nat} (hk : k < 35) {q : Str × Str} (m : q ∈ (longT (wayL k)).ln) : near k q.1 ↔ near k q.2 := by
  rw [longT_ln] at m
  obtain ⟨m, ne⟩ := List.mem_filter.mp m
  obtain ⟨j, hj, rfl⟩ := mem_longL.mp (longS_mem.mp m)
  have nj : j ≠ k := fun e => by
    subst e
    simp at ne
  have h1 := near_way hk (show j < 36 by omega)
  have h2 := near_way hk (show j + 1 < 36 by omega)
  unfold wayL
  by_cases e : j % 2 = 0
  · rw [if_pos e, h1, h2]; omega
  · rw [if_neg e, h1, h2]; omega
theorem near_conn {k : Nat} (hk : k < 35) {x y : Str} (h : Conn (longT (wayL k)).ln x y) : near k x ↔ near k y := by
  induction h with
  | refl => exact Iff.rfl
  | up _ m ih => exact ih.trans (near_line hk m)
  | dn _ m ih => exact ih.trans (near_line hk m).symm
theorem longT_apart {k : Nat} (hk : k < 35) : ¬ Conn (longT (wayL k)).ln (wayL k).1 (wayL k).2 := fun h => by
  have e := near_conn hk h
  have h1 := near_way hk (show k < 36 by omega)
  have h2 := near_way hk (show k + 1 < 36 by omega)
  unfold wayL at e
  by_cases c : k % 2 = 0
  · rw [if_pos c, h1, h2] at e; omega
  · rw [if_neg c, h1, h2] at e; omega
theorem filter_back {α : Type} [DecidableEq α] {l : List α} {p : α} (nd : l.Nodup) (m : p ∈ l) : (l.filter (fun q => !decide (q = p)) ++ [p]).Perm l := by
  induction l with
  | nil => cases m
  | cons a l ih =>
    rw [List.nodup_cons] at nd
    rw [List.filter_cons]
    by_cases e : a = p
    · subst e
      rw [if_neg (by simp)]
      have : l.filter (fun q => !decide (q = a)) = l := List.filter_eq_self.mpr fun q hq => by
        have n : q ≠ a := fun z => nd.1 (by rw [← z]; exact hq)
        rw [decide_eq_false n]; rfl
      rw [this]
      exact List.perm_append_singleton a l
    · rw [if_pos (by rw [decide_eq_false e]; rfl), List.cons_append]
      exact (ih nd.2 ((List.mem_cons.mp m).resolve_left (Ne.symm e))).cons a
theorem longT_two {p : Str × Str} (m : p ∈ longL) : ∃ A B, partsOf (longT p) = [A, B] := by
  obtain ⟨k, hk, rfl⟩ := mem_longL.mp m
  have mS := longS_mem.mpr m
  have up : Up (longT (wayL k)) := mkSh_up _ _
  obtain ⟨n1, n2⟩ := ln_nodes long_valS mS
  rw [← longT_lv (wayL k)] at n1 n2
  have nm : wayL k ∉ (longT (wayL k)).ln := fun h => by
    rw [longT_ln] at h
    have := (List.mem_filter.mp h).2
    simp at this
  have b := (bridge up n1 n2 (longT_apart hk) nm).1
  have e : mkSh (longT (wayL k)).lv ((longT (wayL k)).ln ++ [((wayL k).1, (wayL k).2)]) = longS := by
    have hp : ((longT (wayL k)).ln ++ [((wayL k).1, (wayL k).2)]).Perm longS.ln := by
      rw [longT_ln]
      exact filter_back long_valS.lnd mS
    rw [longT_lv, mkSh_perm (RowP.rfl' _) hp]
    exact mkSh_id (mkSh_up longR longL)
  rw [e, long_parts] at b
  match partsOf (longT (wayL k)), b with
  | [A, B], _ => exact ⟨A, B, rfl⟩
theorem pairsR_nd {r : List Str} (nd : r.Nodup) : (pairsR r).length = r.length * (r.length - 1) := by
  unfold pairsR
  have one : ∀ x ∈ r, (r.filter fun y => !decide (x = y)).length = r.length - 1 := fun x hx => by
    have h := (filter_back nd hx).length_eq
    rw [List.length_append, List.length_singleton] at h
    have e : (fun y => !decide (x = y)) = fun y => !decide (y = x) := funext fun y => by rw [decide_eq_decide.mpr (Eq.comm (a := x) (b := y))]
    rw [e]
    omega
  have : ∀ l : List Str, (∀ x ∈ l, x ∈ r) → (l.flatMap fun x => (r.filter fun y => !decide (x = y)).map fun y => (x, y)).length = l.length * (r.length - 1) := by
    intro l
    induction l with
    | nil => intro _; simp
    | cons x l ih =>
      intro h
      rw [List.flatMap_cons, List.length_append, List.length_map, List.length_cons, Nat.succ_mul, one x (h x List.mem_cons_self), ih fun y m => h y (List.mem_cons_of_mem _ m)]
      omega
  exact this r fun _ h => h
theorem long_pairs : (longS.lv.flatMap pairsR).length = 612 := by
  have n1 : (srt longA).Nodup ∧ (srt longB).Nodup := by
    have h := long_valS.nd
    rw [longS_lv] at h
    unfold longR at h
    rw [List.map_cons, List.map_cons, List.map_nil, List.flatten_cons, List.flatten_cons, List.flatten_nil, List.append_nil] at h
    exact ⟨(List.nodup_append.mp h).1, (List.nodup_append.mp h).2.1⟩
  rw [longS_lv]
  unfold longR
  rw [List.map_cons, List.map_cons, List.map_nil, List.flatMap_cons, List.flatMap_cons, List.flatMap_nil, List.append_nil, List.length_append, pairsR_nd n1.1, pairsR_nd n1.2, (srt_perm _).length_eq, (srt_perm _).length_eq, long_lens.1, long_lens.2]
end U

set_option linter.all false
set_option maxRecDepth 100000
set_option maxHeartbeats 8000000
/-! The law's walks, eleventh part: a line between two parts. -/
namespace U
open PySem PySem.Spec PyProof.Rows L2 UR
theorem paired_split {K : PySem.W.Frag} {H : Hp} : ∀ {as : List Addr} {Rs : List Sh}, Paired (SheetAt K H) as Rs → ∃ zs : List (Addr × Sh), as = zs.map (·.1) ∧ Rs = zs.map (·.2) ∧ ∀ z ∈ zs, SheetAt K H z.1 z.2
  | _, _, .nil => ⟨[], rfl, rfl, fun _ h => nomatch h⟩
  | _, _, .cons (a := a) (b := R) h t => by
    obtain ⟨zs, rfl, rfl, g⟩ := paired_split t
    refine ⟨(a, R) :: zs, rfl, rfl, fun z m => ?_⟩
    rcases List.mem_cons.mp m with rfl | m
    · exact h
    · exact g z m
theorem paired_join {K : PySem.W.Frag} {H : Hp} : ∀ {zs : List (Addr × Sh)}, (∀ z ∈ zs, SheetAt K H z.1 z.2) → Paired (SheetAt K H) (zs.map (·.1)) (zs.map (·.2))
  | [], _ => .nil
  | z :: zs, h => .cons (h z List.mem_cons_self) (paired_join fun y m => h y (List.mem_cons_of_mem _ m))
theorem filt_sh (f : Sh → Bool) (zs : List (Addr × Sh)) : (zs.filter fun z => f z.2).map (·.2) = (zs.map (·.2)).filter f := by
  rw [List.filter_map]
  rfl
theorem zip_filt_len {α : Type} (f : α → Bool) : ∀ (l : List α) (n : Nat), ((l.zipIdx n).filter fun z => f z.1).length = (l.filter f).length
  | [], _ => rfl
  | a :: l, n => by
    have ih := zip_filt_len f l (n + 1)
    rw [List.zipIdx_cons, List.filter_cons, List.filter_cons]
    by_cases c : f a = true
    · rw [if_pos c, if_pos c, List.length_cons, List.length_cons, ih]
    · rw [if_neg c, if_neg c, ih]
open Classical in
/-- a line whose ends lie in two parts -/
theorem spots_apart {S : Sh} {a b : Str} (ha : a ∈ S.lv.flatten) (hb : b ∈ S.lv.flatten) (h : ((partsOf S).filter fun R => decide (a ∈ R.lv.flatten) || decide (b ∈ R.lv.flatten)).length = 2) : ¬ Conn S.ln a b := fun c => by
  have e := parts_filter (S := S) (fun R => decide (a ∈ R.lv.flatten) || decide (b ∈ R.lv.flatten)) (fun x => decide (Conn S.ln x a)) fun x _ => by
    have e1 : decide (a ∈ (restr S x).lv.flatten) = decide (Conn S.ln x a) := decide_eq_decide.mpr ⟨fun k => (restr_nodes.mp k).2, fun k => restr_nodes.mpr ⟨ha, k⟩⟩
    have e2 : decide (b ∈ (restr S x).lv.flatten) = decide (Conn S.ln x a) := decide_eq_decide.mpr ⟨fun k => (restr_nodes.mp k).2.trans c.symm, fun k => restr_nodes.mpr ⟨hb, k.trans c⟩⟩
    rw [e1, e2, Bool.or_self]
  have one : ((roots S.ln [] S.lv.flatten).filter fun x => decide (Conn S.ln x a)).length = 1 :=
    roots_class _ (fun x y c h => decide_eq_true (c.trans (of_decide_eq_true h))) (fun x y hx hy => (of_decide_eq_true hx).trans (of_decide_eq_true hy).symm) ⟨a, ha, decide_eq_true (.refl _)⟩
  rw [e, List.length_map, one] at h
  cases h
section
variable {P : Program} {w : World} {K : PySem.W.Frag} {mg : Str → Option Value} {base : Heap} (T : TX K mg)
include T
def sp_law_joined_right (K : PySem.W.Frag) : Sp := fun vs H Q _ => ∃ (p a t : Addr) (rows : Lv) (ls : Ln), vs = [.ref p, .ref a, .ref t] ∧ PotAt H p ∧ SheetAt K H a (mkSh rows ls) ∧ PlanAt H t rows ls ∧ Plan rows ls ∧
  ∀ H', Off p H H' → PotAt H' p → Q (.bl true) H'
theorem f_law_joined_right : Fn P w K mg base 26 (fA K "_law_joined_right") (sp_law_joined_right K) [] := by
  obtain ⟨fd, F⟩ := dd_law_joined_right T
  have nd := sc_law_joined_right.nd
  refine fnD F (F.bindsN fun _ _ _ _ _ _ us hl => match us, hl with | [_, _, _], _ => rfl) sc_law_joined_right (fun vs H Q E h => ?_) (fun cdv A outer s H vs Q E hr h => ?_)
  · obtain ⟨p, a, t, rows, ls, rfl, _⟩ := h; rfl
  · obtain ⟨p, a, t, rows, ls, rfl, hp, hS, hP, pl, q⟩ := h
    have hu65 := hu65_of hr
    refine ⟨_, PSs.nox ((pss_cons (ps_asg (pe_m0 (f_S_parts T) hr (by decide) (cls T) (m_S_parts T) (pv 1)) (pg_name (i := 3) nd rfl (by first | exact Or.inl rfl | exact Or.inr rfl)))
  (pss_cons (ps_asg (pe_lst pa_nil) (pg_name (i := 4) nd rfl (by first | exact Or.inl rfl | exact Or.inr rfl)))
  (pss_cons (ps_for PassesOwn.never rfl (k_ilist (K := K) rfl (pe_f (f_law_all_lines T) hr (by decide) rfl (g_law_all_lines T) (kp_law_all_lines T) (pa_cons (pe_ix (k_ixt (K := K) rfl) (pv 2) pe_int (fun _ _ => rfl)) pa_nil))) (k_gtup (K := K) (n := 2) rfl rfl (pgs_cons (pg_name (i := 5) nd rfl (by first | exact Or.inl rfl | exact Or.inr rfl)) (pgs_cons (pg_name (i := 6) nd rfl (by first | exact Or.inl rfl | exact Or.inr rfl)) pgs_nil)))
  (pss_cons (ps_setLc (own := [("_law_at", 8), ("_law_part", 9)]) (i := 7) rfl nd rfl rfl (sw_true rfl rfl rfl (by decide +kernel)) (k_ienum (K := K) rfl rfl (b_enumerate T) (pa_cons (pv 3) pa_nil)) (blkOk_by (by rfl)) (fun _ _ _ _ _ => (k_gtup (K := K) (n := 2) rfl rfl (pgs_cons (pg_name (i := 8) nd rfl (by first | exact Or.inl rfl | exact Or.inr rfl)) (pgs_cons (pg_name (i := 9) nd rfl (by first | exact Or.inl rfl | exact Or.inr rfl)) pgs_nil)))) (fun _ _ _ _ _ => (pts_one (PW.pt (pw_or (pt_cmpR (op_in_own (f_S_contains T) (hr.mono (by decide)) (m_S_contains T)) (pv 5) (pv 9) (by with_unfolding_all rfl)) (pw_or1 (pt_cmpR (op_in_own (f_S_contains T) (hr.mono (by decide)) (m_S_contains T)) (pv 6) (pv 9) (by with_unfolding_all rfl))))))) (fun _ _ _ _ _ => (pv 8)))
  (pss_one (ps_if (pt_cmpR op_eq (pe_callB (k_len (K := K) rfl) rfl (b_len T) PySem.boot_len (pa_cons (pv 7) pa_nil)) pe_int (nomark _))
  (pss_one (ps_expr (k_bm (K := K) rfl PySem.F.plainAttrs_list PySem.F.slot_list_append PySem.F.type_list_append mt_append (pv 4) (pa_cons (pe_tup (pa_cons (pv 5) (pa_cons (pv 6) pa_nil))) pa_nil))))
  pss_nil))))
  (pss_cons (ps_if (pt_cmpR (k_eqD (K := K) rfl hr.units) (pv 4) (pe_lst pa_nil) (nomark _))
  (pss_one (ps_ret pe_bl))
  pss_nil)
  (pss_cons (ps_asg (pe_f (f_law_pick T) hr (by decide) rfl (g_law_pick T) (kp_law_pick T) (pa_cons (pv 0) (pa_cons (pv 4) pa_nil))) (pg_name (i := 10) nd rfl (by first | exact Or.inl rfl | exact Or.inr rfl)))
  (pss_cons (ps_asg (pe_m0 (f_S_parts T) hr (by decide) (cls T) (m_S_parts T) (pe_op (op_own_tup (f_S_add T) (hr.mono (by decide)) (x_first T) (m_S_add T) (x_radd T) (.inr ⟨_, rfl⟩) tup_add tup_radd (x_sub T)) (pv 1) (pv 10))) (pg_name (i := 11) nd rfl (by first | exact Or.inl rfl | exact Or.inr rfl)))
  (pss_cons (ps_setLc (own := [("_law_part", 9)]) (g := gName 9) (i := 12) rfl nd rfl rfl (sw_true rfl rfl rfl (by decide +kernel)) (k_ilist (K := K) rfl (pv 11)) (blkOk_by (by rfl)) (fun _ _ _ _ _ => (pg_name (i := 9) nd rfl (by first | exact Or.inl rfl | exact Or.inr rfl))) (fun _ _ _ _ _ => (pts_one (pt_cmpR (op_in_own (f_S_contains T) (hr.mono (by decide)) (m_S_contains T)) (pv 10) (pv 9) (by with_unfolding_all rfl)))) (fun _ _ _ _ _ => (pv 9)))
  (pss_cons (ps_setLc (own := [("_law_part", 9)]) (g := gName 9) (i := 13) rfl nd rfl rfl (sw_true rfl rfl rfl (by decide +kernel)) (k_ilist (K := K) rfl (pv 3)) (blkOk_by (by rfl)) (fun _ _ _ _ _ => (pg_name (i := 9) nd rfl (by first | exact Or.inl rfl | exact Or.inr rfl))) (fun _ _ _ _ _ => (pts_one (PW.pt (pw_and (pt_cmpR (op_notin_own (f_S_contains T) (hr.mono (by decide)) (m_S_contains T)) (pe_ix (k_ixt (K := K) rfl) (pv 10) pe_int (fun _ _ => rfl)) (pv 9) (by with_unfolding_all rfl)) (pw_and1 (pt_cmpR (op_notin_own (f_S_contains T) (hr.mono (by decide)) (m_S_contains T)) (pe_ix (k_ixt (K := K) rfl) (pv 10) pe_int (fun _ _ => rfl)) (pv 9) (by with_unfolding_all rfl))))))) (fun _ _ _ _ _ => (pv 9)))
  (pss_one (ps_ret (pe_and (pe_cmpR op_eq (pe_callB (k_len (K := K) rfl) rfl (b_len T) PySem.boot_len (pa_cons (pv 11) pa_nil)) (pe_op op_sub (pe_callB (k_len (K := K) rfl) rfl (b_len T) PySem.boot_len (pa_cons (pv 3) pa_nil)) pe_int) (nomark _)) (pe_and (pe_cmpR op_eq (pe_callB (k_len (K := K) rfl) rfl (b_len T) PySem.boot_len (pa_cons (pv 12) pa_nil)) pe_int (nomark _)) (pe_one (pe_cmpR (op_eqG (rc_sheets T rfl rfl) (hr.mono (by decide))) (pe_lc (own := [("_law_part", 9)]) (g := gName 9) rfl nd (k_ilist (K := K) rfl (pv 11)) (blkOk_by (by rfl)) (fun _ _ _ _ _ => (pg_name (i := 9) nd rfl (by first | exact Or.inl rfl | exact Or.inr rfl))) (fun _ _ _ _ _ => (pts_one (pt_cmpR (op_notin_own (f_S_contains T) (hr.mono (by decide)) (m_S_contains T)) (pv 10) (pv 9) (by with_unfolding_all rfl)))) (fun _ _ _ _ _ => (pv 9))) (pv 13) (nomark _)))))))))))))))), ?_⟩
    obtain ⟨A', B, et, ⟨ps, ep, eA, hps⟩, ⟨qs, eq, eB, hqs⟩⟩ := id hP
    have va := pl.valid
    have hup := mkSh_up rows ls
    have rp : RowP (mkSh rows ls).lv rows := rowP_srt rows
    have lp : (mkSh rows ls).ln.Perm ls := srtL_perm ls
    generalize mkSh rows ls = S at hS hup rp lp
    have vSS : Valid S.lv S.ln := valid_perm va rp.symm lp.symm
    have tall := pl.tall
    have few := pl.few
    obtain ⟨dx, A1, B1, D1, E1, F1, G1, kf, kg, ex, _⟩ := id hS
    refine ⟨.ref a, rfl, a, dx, _, rfl, ex, rfl, a, S, rfl, hS, vSS, hup, fun H1 m as s1 fm em pr => ?_⟩
    obtain ⟨zs, rfl, ezs, hzs⟩ := paired_split (L2.Paired.mapP pr fun _ _ h => h.s (ers_same _ _))
    rw [List.map_map] at em
    replace em : H1 m = some (.lst (zs.map fun z => V.ref z.1)) := em
    have zlen : zs.length ≤ 216 := by
      have := parts_few vSS
      rw [ezs, List.length_map] at this
      exact this
    have inz : ∀ z ∈ zs, z.2 ∈ partsOf S := fun z hz => by rw [ezs]; exact List.mem_map.mpr ⟨z, hz, rfl⟩
    clear pr
    refine ⟨Nat.zero_le _, fun b hb => ?_⟩
    have s2 : Same H1 (ers b (upd H1 b (.lst []))) := (same_new hb).ers0 hb
    have eb : (upd H1 b (.lst [])) b = some (.lst []) := upd_same
    generalize upd H1 b (.lst []) = H2 at s2 eb ⊢
    have s02 : Same H (ers b H2) := s1.trans s2
    have s02' := s02.trans (ers_same _ _)
    have wide18 : ∀ r ∈ rows, r.length ≤ 18 := fun r hr0 => Nat.le_trans (pl.wide r hr0) (by decide)
    refine ⟨.ref t, rfl, t, _, 0, .ref A', rfl, rfl, .inl (.inl (s02' _ _ et)), atI_nat (j := 0) rfl, A', rows, rfl, ⟨_, ep, s02' _ _ eA, fun z hz => (hps z hz).s s02'⟩, by omega, wide18, fun H3 u s3 f3 ⟨ws, ews, eW, hws⟩ => ⟨u, rfl, ⟨_, sqR eW⟩, ?_⟩⟩
    have s13 : Same H1 (ers b H3) := s2.trans (s3.ers b)
    have eb3 := s3 _ _ eb
    have nub : u ≠ b := fun e => by rw [e, eb] at f3; cases f3
    have eWf : (ers b H3) u = some (.lst (ws.map fun p => V.ref p.1)) := (ers_ne nub).trans eW
    have hwsf : ∀ z ∈ ws, UR.TP (ers b H3) z.1 z.2 := fun z hz => (ers_ne (ne_of (hws z hz) eb3 (fun z => nomatch z))).trans (hws z hz)
    have inw : ∀ z ∈ ws, Beside rows z.2 := fun z hz => mem_allLines.mp (by rw [ews]; exact List.mem_map.mpr ⟨z, hz, rfl⟩)
    have alen := allLines_len (rows := rows) (by omega) wide18
    have lws : ws.length ≤ 3888 := by rw [ews, List.length_map] at alen; exact alen
    refine forG (wk_list (K := K) (H1 := ers b H3) (f := fun p : Addr × Str × Str => V.ref p.1) (sqR eWf) (good_ref _ _)) (fun i σ H' => ∃ (y5 y6 y7 y8 y9 : Option V) (bs : List (Addr × Str × Str)), σ = [some (.ref p), some (.ref a), some (.ref t), some (.ref m), some (.ref b), y5, y6, y7, y8, y9, none, none, none, none] ∧ Same (ers b H3) (ers b H') ∧
        H' b = some (.lst (bs.map fun z => V.ref z.1)) ∧ (∀ z ∈ bs, UR.TP (ers b H') z.1 z.2 ∧ Beside rows z.2 ∧ ¬ Conn S.ln z.2.1 z.2.2) ∧ bs.length ≤ i)
      ⟨_, _, _, _, _, [], rfl, .refl _, eb3, fun z hz => (nomatch hz), Nat.zero_le _⟩ (fun i σ H' ⟨_, _, _, _, _, _, _, s, _⟩ => (s.trans (ers_same _ _)).g) ?_ ?_
    · rintro i z v σ H4 H5 ez ⟨y5, y6, y7, y8, y9, bs, rfl, s4, eb4, hbs, lbs⟩ sm rfl
      have mz := List.mem_of_getElem? ez
      have li : i < 3888 := Nat.lt_of_lt_of_le (List.getElem?_eq_some_iff.mp ez).1 lws
      have s5 : Same (ers b H3) (ers b H5) := s4.trans (sm.ers b)
      have s15 := s13.trans s5
      have s15' := s15.trans (ers_same _ _)
      have eb5 := sm _ _ eb4
      have tz : UR.TP H5 z.1 z.2 := ((hwsf z mz).s s5).s (ers_same _ _)
      have bz := inw z mz
      have nm1 : nameOk z.2.1 = true := poolN_ok _ (pl.pool _ bz.mem1)
      have nm2 : nameOk z.2.2 = true := poolN_ok _ (pl.pool _ bz.mem2)
      refine ⟨z.1, _, rfl, .inl (.inl tz), rfl, _, _, rfl, _, _, rfl, rfl, ?_⟩
      refine ⟨.ref m, rfl, m, _, rfl, sqR (s15' _ _ em), fun D hD => ?_⟩
      refine lcG (wk_enum (K := K) (f := fun z : Addr × Sh => V.ref z.1) (sqR (s15' _ _ em)) (good_ref _ _)) hD (sz64' (by rw [List.length_zipIdx]; omega)) (fun y => decide (z.2.1 ∈ y.1.2.lv.flatten) || decide (z.2.2 ∈ y.1.2.lv.flatten)) (fun _ _ _ => True) (fun _ _ _ _ _ h => h) (fun y hy v H6 Nx sN _ _ e1 _ yes no => ?_) (fun H6 ys s6 eD pD => ?_)
      · obtain ⟨T0, rfl, eT0⟩ := e1
        have sN' := s15'.trans (sN.trans (ers_same _ _))
        have my : y.1 ∈ zs := (List.mem_zipIdx' (x := y.1) (i := y.2) hy).2 ▸ List.getElem_mem _
        have hy1 := (hzs _ my).s sN'
        have vy := parts_valid vSS (inz _ my)
        refine ⟨T0, _, rfl, .inl (.inl eT0), rfl, _, _, rfl, _, _, rfl, rfl, rfl, ?_⟩
        refine ⟨.str z.2.1, rfl, .ref y.1.1, rfl, y.1.1, rfl, hy1.ins, y.1.1, y.1.2, hy1, vy.nd, vy.nmLn, .inl ⟨z.2.1, rfl, nm1, _, rfl, _, rfl, ?_⟩⟩
        by_cases m1 : z.2.1 ∈ y.1.2.lv.flatten
        · rw [decide_eq_true m1]
          refine iteT (iteT ?_)
          exact ⟨.int y.2, rfl, yes _ _ (by rw [decide_eq_true m1]; rfl) (.refl _) True.intro⟩
        · rw [decide_eq_false m1]
          refine iteF ?_
          refine ⟨.str z.2.2, rfl, .ref y.1.1, rfl, y.1.1, rfl, hy1.ins, y.1.1, y.1.2, hy1, vy.nd, vy.nmLn, .inl ⟨z.2.2, rfl, nm2, _, rfl, _, rfl, ?_⟩⟩
          by_cases m2 : z.2.2 ∈ y.1.2.lv.flatten
          · rw [decide_eq_true m2]
            refine iteT ?_
            exact ⟨.int y.2, rfl, yes _ _ (by rw [decide_eq_false m1, decide_eq_true m2]; rfl) (.refl _) True.intro⟩
          · rw [decide_eq_false m2]
            exact iteF (no _ (by rw [decide_eq_false m1, decide_eq_false m2]; rfl) (.refl _))
      have s6' := s6.trans (ers_same _ _)
      have ylen : ys.length = ((partsOf S).filter fun R => decide (z.2.1 ∈ R.lv.flatten) || decide (z.2.2 ∈ R.lv.flatten)).length := by
        have h := pD.length
        rw [zip_filt_len (fun y : Addr × Sh => decide (z.2.1 ∈ y.2.lv.flatten) || decide (z.2.2 ∈ y.2.lv.flatten))] at h
        rw [ezs, ← filt_sh (fun R => decide (z.2.1 ∈ R.lv.flatten) || decide (z.2.2 ∈ R.lv.flatten)), List.length_map, ← h]
      have eb6 := s6' _ _ eb5
      have nbD : b ≠ D := ne_of_none eb5 hD
      have s36 := s5.trans (s6'.ers b)
      refine ⟨.ref D, rfl, D, _, rfl, .inl (sqR eD), rfl, _, rfl, ?_⟩
      by_cases two : ys.length = 2
      · rw [two]
        refine iteT ?_
        rw [ylen] at two
        have ap := spots_apart (rp.flat.mem_iff.mpr bz.mem1) (rp.flat.mem_iff.mpr bz.mem2) two
        refine ⟨.ref b, rfl, .inl ⟨rfl, _, sqR eb6⟩, .str z.2.1, rfl, .str z.2.2, rfl, by show 2 ≤ sizeLine; decide, fun t0 ht0 => ?_⟩
        have nbt : b ≠ t0 := ne_of_none eb6 ht0
        refine ⟨b, _, _, rfl, rfl, (upd_ne nbt).trans eb6, sz64' (by rw [List.length_map]; omega), _, _, _, _, _, bs ++ [(t0, z.2)], rfl, ?_, ?_, ?_, ?_⟩
        · rw [ers_upd]
          exact s36.trans ((same_new ht0).ers b)
        · rw [upd_same, List.map_append]
          rfl
        · intro y hy
          rw [ers_upd]
          rcases List.mem_append.mp hy with hy | hy
          · obtain ⟨h1, h2⟩ := hbs y hy
            exact ⟨h1.s ((sm.ers b).trans ((s6'.ers b).trans ((same_new ht0).ers b))), h2⟩
          · cases List.mem_singleton.mp hy
            exact ⟨(ers_ne nbt.symm).trans upd_same, bz, ap⟩
        · rw [List.length_append, List.length_singleton]
          omega
      · have : decide (V.int (ys.length : Nat) = V.int 2) = false := decide_eq_false fun e => by
          have := V.int.inj e
          omega
        rw [this]
        refine iteF ?_
        exact ⟨_, _, _, _, _, bs, rfl, s36, eb6, fun y hy => ⟨((hbs y hy).1.s (sm.ers b)).s (s6'.ers b), (hbs y hy).2⟩, Nat.le_succ_of_le lbs⟩
    · rintro σ H4 ⟨y5, y6, y7, y8, y9, bs, rfl, s4, eb4, hbs, lbs⟩
      have s14 := s13.trans s4
      have s14' := s14.trans (ers_same _ _)
      have s04' := s1.trans s14'
      have hbT : LTp H4 b bs := ⟨eb4, fun z hz => (hbs z hz).1.s (ers_same _ _)⟩
      have nmb : NmLn (bs.map (·.2)) := fun x hx => by
        obtain ⟨z, hz, rfl⟩ := List.mem_map.mp hx
        have bz := (hbs z hz).2.1
        exact ⟨poolN_ok _ (pl.pool _ bz.mem1), poolN_ok _ (pl.pool _ bz.mem2)⟩
      refine ⟨.ref b, rfl, Nat.zero_le _, fun M hM => ⟨encLn (bs.map (·.2)), encLn [], LT.dp ⟨bs, rfl, hbT.s (same_new hM)⟩, .lst (sqR upd_same) .nil, shp_Ln nmb, by decide +kernel, _, rfl, ?_⟩⟩
      rw [eqv_Ln]
      have sM := same_new hM (o := .lst [])
      by_cases e0 : bs.map (·.2) = []
      · rw [decide_eq_true e0]
        refine iteT ?_
        exact q _ (Off.of (s04'.trans sM)) (hp.s (s04'.trans sM))
      rw [decide_eq_false e0]
      refine iteF ?_
      have hbT5 := hbT.s sM
      have s15 : Same H1 (upd H4 M (.lst [])) := s14'.trans sM
      generalize upd H4 M (.lst []) = H5 at hbT5 s15 ⊢
      clear hbT s4 eb4 s14 s14' s04' sM hM
      have s05 := s1.trans s15
      have hp5 := hp.s s05
      refine ⟨.ref p, rfl, .ref b, rfl, p, b, _, rfl, hp5, hbT5.1, good_ref _ _, ?_, ?_, fun H6 x o6 hp6 mx => ?_⟩
      · rw [List.length_map]
        refine List.length_pos_iff.mpr fun e => e0 ?_
        rw [e]
        rfl
      · rw [List.length_map]
        omega
      obtain ⟨z, hz, rfl⟩ := List.mem_map.mp mx
      obtain ⟨-, bz, ap⟩ := hbs z hz
      have g56 := Off.g hp5 o6
      have g16 : SameG H1 H6 := s15.g.trans g56
      have g06 : SameG H H6 := s1.g.trans g16
      have tz : UR.TP H6 z.1 z.2 := (hbT5.2 z hz).g g56
      have hS6 := hS.g g06
      have em6 : H6 m = some (.lst (zs.map fun z => V.ref z.1)) := g16 _ _ (good_ref _ _) em
      have hzs6 : ∀ z ∈ zs, SheetAt K H6 z.1 z.2 := fun z hz => (hzs z hz).g g16
      have o06 : Off p H H6 := (Off.of s05).trans o6
      generalize hz1 : z.1 = tz1 at tz
      generalize z.2 = one at bz ap tz
      obtain ⟨lo, hi⟩ := one
      have nmo : NmP (lo, hi) := ⟨poolN_ok _ (pl.pool _ bz.mem1), poolN_ok _ (pl.pool _ bz.mem2)⟩
      have n1 : lo ∈ S.lv.flatten := rp.flat.mem_iff.mpr bz.mem1
      have n2 : hi ∈ S.lv.flatten := rp.flat.mem_iff.mpr bz.mem2
      have nin : (lo, hi) ∉ S.ln := fun h => ap (.up (.refl _) h)
      have bzS : Beside S.lv (lo, hi) := by
        obtain ⟨i, r, r', h1, h2, m1, m2⟩ := bz
        obtain ⟨s, e, k⟩ := rp.symm.get h1
        obtain ⟨s', e', k'⟩ := rp.symm.get h2
        exact ⟨i, s, s', e, e', k.mem_iff.mp m1, k'.mem_iff.mp m2⟩
      have vS2 : Valid S.lv (S.ln ++ [(lo, hi)]) := valid_lines vSS (by rw [List.length_append, lp.length_eq, List.length_singleton]; omega) (List.nodup_append.mpr ⟨vSS.lnd, List.nodup_cons.mpr ⟨(fun h => nomatch h), .nil⟩, fun x hx y hy e => nin (by cases List.mem_singleton.mp hy; exact e ▸ hx)⟩) fun q hq => by
        rcases List.mem_append.mp hq with h | h
        · exact vSS.ok q h
        · cases List.mem_singleton.mp h; exact bzS
      obtain ⟨br1, br2, br3⟩ := bridge hup n1 n2 ap nin
      have up2 := mkSh_up S.lv (S.ln ++ [(lo, hi)])
      have vv2 := vS2.srt
      refine ⟨.ref a, rfl, .ref tz1, rfl, a, tz1, _, rfl, rfl, hS6.ins, tz, a, tz1, S, (lo, hi), rfl, hS6, tz, vSS.nmLn, nmo, nin, bzS, vS2, fun H7 x s7 f7 h7 => ?_⟩
      change Valid (mkSh S.lv (S.ln ++ [(lo, hi)])).lv (mkSh S.lv (S.ln ++ [(lo, hi)])).ln at vv2
      generalize mkSh S.lv (S.ln ++ [(lo, hi)]) = S2 at br1 br2 br3 up2 vv2 h7
      have h7' := h7.s (dropL_same _ _)
      obtain ⟨dx2, A2, B2, D2, E2, F2, G2, kf2, kg2, ex2, _⟩ := id h7'
      refine ⟨x, dx2, _, rfl, ex2, rfl, x, S2, rfl, h7', vv2, up2, fun H8 n as2 s8 f8 e8 pr8 => ?_⟩
      obtain ⟨zs2, rfl, ezs2, hzs2⟩ := paired_split (L2.Paired.mapP pr8 fun _ _ h => h.s (ers_same _ _))
      rw [List.map_map] at e8
      replace e8 : H8 n = some (.lst (zs2.map fun z => V.ref z.1)) := e8
      have zlen2 : zs2.length ≤ 216 := by
        have := parts_few vv2
        rw [ezs2, List.length_map] at this
        exact this
      have inz2 : ∀ z ∈ zs2, z.2 ∈ partsOf S2 := fun z hz => by rw [ezs2]; exact List.mem_map.mpr ⟨z, hz, rfl⟩
      have em8 := (s7.trans s8) _ _ em6
      have tz8 := (tz.s s7).s s8
      -- with the line
      refine ⟨.ref n, rfl, n, rfl, ⟨_, sqR e8⟩, fun D hD => ?_⟩
      refine lcG (wk_list (K := K) (f := fun z : Addr × Sh => V.ref z.1) (sqR e8) (good_ref _ _)) hD (sz64' (by omega)) (fun z => decide ((lo, hi) ∈ z.2.ln)) (fun z y _ => y = .ref z.1) (fun _ _ _ _ _ h => h) (fun z hz v H9 Nx sN _ _ e1 _ yes no => ?_) (fun H9 ys s9 eD pD => ?_)
      · subst e1
        have sN' := sN.trans (ers_same _ _)
        have hz1 := (hzs2 z hz).s sN'
        have vz := parts_valid vv2 (inz2 z hz)
        refine ⟨rfl, .ref tz1, rfl, .ref z.1, rfl, z.1, rfl, hz1.ins, z.1, z.2, hz1, vz.nd, vz.nmLn, .inr ⟨tz1, (lo, hi), rfl, tz8.s sN', nmo, _, rfl, _, rfl, ?_⟩⟩
        by_cases k : (lo, hi) ∈ z.2.ln
        · rw [decide_eq_true k]
          exact iteT ⟨.ref z.1, rfl, yes _ _ (decide_eq_true k) (.refl _) rfl⟩
        · rw [decide_eq_false k]
          exact iteF (no _ (decide_eq_false k) (.refl _))
      have s9' := s9.trans (ers_same _ _)
      have len1 : ys.length = 1 := by
        have h := pD.length
        rw [← br2, ezs2, ← filt_sh (fun R => decide ((lo, hi) ∈ R.ln)), List.length_map, ← h]
      -- without its ends
      have s69 := (s7.trans s8).trans s9'
      have em9 := s9' _ _ em8
      refine ⟨.ref m, rfl, m, rfl, ⟨_, sqR em9⟩, fun D2 hD2 => ?_⟩
      refine lcG (wk_list (K := K) (f := fun z : Addr × Sh => V.ref z.1) (sqR em9) (good_ref _ _)) hD2 (sz64' (by omega)) (fun z => !decide (lo ∈ z.2.lv.flatten) && !decide (hi ∈ z.2.lv.flatten)) (fun z y _ => y = .ref z.1) (fun _ _ _ _ _ h => h) (fun z hz v H10 Nx sN _ _ e1 _ yes no => ?_) (fun H10 ys2 s10 eD2 pD2 => ?_)
      · subst e1
        have sN' := s69.trans (sN.trans (ers_same _ _))
        have hz1 := (hzs6 z hz).s sN'
        have vz := parts_valid vSS (inz z hz)
        have tzN := tz.s sN'
        refine ⟨rfl, .ref tz1, rfl, tz1, _, 0, .str lo, rfl, rfl, tzN.sq, rfl, .ref z.1, rfl, z.1, rfl, hz1.ins, z.1, z.2, hz1, vz.nd, vz.nmLn, .inl ⟨lo, rfl, nmo.1, _, rfl, _, rfl, ?_⟩⟩
        by_cases m1 : lo ∈ z.2.lv.flatten
        · rw [decide_eq_true m1]
          refine iteF ?_
          exact no _ (by rw [decide_eq_true m1]; rfl) (.refl _)
        · rw [decide_eq_false m1]
          refine iteT ?_
          refine ⟨.ref tz1, rfl, tz1, _, 1, .str hi, rfl, rfl, tzN.sq, rfl, .ref z.1, rfl, z.1, rfl, hz1.ins, z.1, z.2, hz1, vz.nd, vz.nmLn, .inl ⟨hi, rfl, nmo.2, _, rfl, _, rfl, ?_⟩⟩
          by_cases m2 : hi ∈ z.2.lv.flatten
          · rw [decide_eq_true m2]
            exact iteF (no _ (by rw [decide_eq_false m1, decide_eq_true m2]; rfl) (.refl _))
          · rw [decide_eq_false m2]
            exact iteT ⟨.ref z.1, rfl, yes _ _ (by rw [decide_eq_false m1, decide_eq_false m2]; rfl) (.refl _) rfl⟩
      have s10' := s10.trans (ers_same _ _)
      have e8a := s10' _ _ (s9' _ _ e8)
      have em10 := s10' _ _ em9
      have eDa := s10' _ _ eD
      refine ⟨.ref n, rfl, n, _, rfl, .inl (sqR e8a), .ref m, rfl, m, _, rfl, .inl (sqR em10), _, _, rfl, rfl, rfl, _, rfl, ?_⟩
      have c1 : decide (V.int ((zs2.map fun z => V.ref z.1).length : Nat) = V.int (((zs.map fun z => V.ref z.1).length : Nat) - 1)) = true := by
        have h1 : zs2.length + 1 = zs.length := by
          rw [ezs2, ezs, List.length_map, List.length_map] at br1
          exact br1
        refine decide_eq_true (congrArg V.int ?_)
        rw [List.length_map, List.length_map]
        omega
      rw [c1]
      refine iteT ?_
      refine ⟨.ref D, rfl, D, _, rfl, .inl (sqR eDa), rfl, _, rfl, ?_⟩
      rw [len1]
      refine iteT ?_
      have s810 := s9'.trans s10'
      refine ⟨.ref n, rfl, n, rfl, ⟨_, sqR e8a⟩, fun D3 hD3 => ?_⟩
      refine lcG (wk_list (K := K) (f := fun z : Addr × Sh => V.ref z.1) (sqR e8a) (good_ref _ _)) hD3 (sz64' (by omega)) (fun z => !decide ((lo, hi) ∈ z.2.ln)) (fun z y _ => y = .ref z.1) (fun _ _ _ _ _ h => h) (fun z hz v H11 Nx sN _ _ e1 _ yes no => ?_) (fun H11 ys3 s11 eD3 pD3 => ?_)
      · subst e1
        have sN' := s810.trans (sN.trans (ers_same _ _))
        have hz1 := (hzs2 z hz).s sN'
        have vz := parts_valid vv2 (inz2 z hz)
        refine ⟨rfl, .ref tz1, rfl, .ref z.1, rfl, z.1, rfl, hz1.ins, z.1, z.2, hz1, vz.nd, vz.nmLn, .inr ⟨tz1, (lo, hi), rfl, tz8.s sN', nmo, _, rfl, _, rfl, ?_⟩⟩
        by_cases k : (lo, hi) ∈ z.2.ln
        · rw [decide_eq_true k]
          exact iteF (no _ (by rw [decide_eq_true k]; rfl) (.refl _))
        · rw [decide_eq_false k]
          exact iteT ⟨.ref z.1, rfl, yes _ _ (by rw [decide_eq_false k]; rfl) (.refl _) rfl⟩
      have s11' := s11.trans (ers_same _ _)
      have eD2b := s11' _ _ eD2
      have e3 := paired_eq (f := fun z : Addr × Sh => V.ref z.1) pD3
      have e2 := paired_eq (f := fun z : Addr × Sh => V.ref z.1) pD2
      have s8b := s810.trans s11'
      have s6b := s69.trans (s10'.trans s11')
      have q3 : Paired (SheetAt K H11) ((zs2.filter fun z => !decide ((lo, hi) ∈ z.2.ln)).map (·.1)) ((partsOf S2).filter fun R => !decide ((lo, hi) ∈ R.ln)) := by
        rw [ezs2, ← filt_sh (fun R => !decide ((lo, hi) ∈ R.ln))]
        exact paired_join fun z hz => (hzs2 z (List.mem_filter.mp hz).1).s s8b
      have q2 : Paired (SheetAt K H11) ((zs.filter fun z => !decide (lo ∈ z.2.lv.flatten) && !decide (hi ∈ z.2.lv.flatten)).map (·.1)) ((partsOf S2).filter fun R => !decide ((lo, hi) ∈ R.ln)) := by
        rw [br3, ezs, ← filt_sh (fun R => !decide (lo ∈ R.lv.flatten) && !decide (hi ∈ R.lv.flatten))]
        exact paired_join fun z hz => (hzs6 z (List.mem_filter.mp hz).1).s s6b
      have prs := prs_sheets q3 q2 fun R hR => parts_valid vv2 (List.mem_filter.mp hR).1
      rw [List.map_map, List.map_map] at prs
      subst e3 e2
      refine ⟨.ref D2, rfl, ⟨D3, D2, _, _, rfl, rfl, eD3, eD2b, prs⟩, fun H12 s12 => ?_⟩
      have sF := s6b.trans s12
      exact q _ (o06.trans (Off.of sF)) (hp6.s sF)
end
end U

set_option linter.all false
set_option maxRecDepth 100000
set_option maxHeartbeats 8000000
/-! The law's walks, twelfth part: the way of thirty-six nodes. -/
namespace U
open PySem PySem.Spec PyProof.Rows L2 UR
theorem pairs_lt {H : Hp} : ∀ {ts : List Addr} {l m : List Str}, PairsAt H ts ((l.map V.str).zip (m.map V.str)) → ∃ qs : List (Addr × Str × Str), ts = qs.map (·.1) ∧ l.zip m = qs.map (·.2) ∧ ∀ z ∈ qs, UR.TP H z.1 z.2
  | [], [], _, _ => ⟨[], rfl, rfl, fun _ h => nomatch h⟩
  | [], _ :: _, [], _ => ⟨[], rfl, rfl, fun _ h => nomatch h⟩
  | [], _ :: _, _ :: _, h => h.elim
  | _ :: _, [], _, h => h.elim
  | _ :: _, _ :: _, [], h => h.elim
  | t :: ts, x :: l, y :: m, h => by
    obtain ⟨qs, rfl, e, g⟩ := pairs_lt (ts := ts) (l := l) (m := m) h.2
    refine ⟨(t, x, y) :: qs, rfl, by rw [List.zip_cons_cons, e]; rfl, fun z hz => ?_⟩
    rcases List.mem_cons.mp hz with rfl | hz
    · exact h.1
    · exact g z hz
theorem long_zip : longA.zip longB ++ (longA.drop 1).zip longB = longL := by decide +kernel
section
variable {P : Program} {w : World} {K : PySem.W.Frag} {mg : Str → Option Value} {base : Heap} (T : TX K mg)
include T
def sp_law_long_right : Sp := fun vs H Q _ => ∃ (p : Addr), vs = [.ref p] ∧ PotAt H p ∧ ∀ H', Off p H H' → PotAt H' p → Q (.bl true) H'
theorem f_law_long_right : Fn P w K mg base 26 (fA K "_law_long_right") sp_law_long_right [] := by
  obtain ⟨fd, F⟩ := dd_law_long_right T
  have nd := sc_law_long_right.nd
  refine fnD F (F.bindsN fun _ _ _ _ _ _ us hl => match us, hl with | [_], _ => rfl) sc_law_long_right (fun vs H Q E h => ?_) (fun cdv A outer s H vs Q E hr h => ?_)
  · obtain ⟨p, rfl, _⟩ := h; rfl
  · obtain ⟨p, rfl, hp, q⟩ := h
    refine ⟨_, PSs.nox ((pss_cons (ps_asg (pe_lst (pa_cons (pe_lc (own := [("_law_at", 2)]) (g := gName 2) (tt := tYes) rfl nd (pi_range1 rfl (b_range T) (pa_cons pe_int pa_nil)) (blkOk_by (by rfl)) (fun _ _ _ _ _ => (pg_name (i := 2) nd rfl (by first | exact Or.inl rfl | exact Or.inr rfl))) (fun _ _ _ _ _ => pts_nil) (fun _ _ _ _ _ => (pe_op op_add_str pe_str (pe_callTy call_str_int rfl (b_str T) (by decide +kernel) (pa_cons (pv 2) pa_nil))))) (pa_cons (pe_lc (own := [("_law_at", 2)]) (g := gName 2) (tt := tYes) rfl nd (pi_range1 rfl (b_range T) (pa_cons pe_int pa_nil)) (blkOk_by (by rfl)) (fun _ _ _ _ _ => (pg_name (i := 2) nd rfl (by first | exact Or.inl rfl | exact Or.inr rfl))) (fun _ _ _ _ _ => pts_nil) (fun _ _ _ _ _ => (pe_op op_add_str pe_str (pe_callTy call_str_int rfl (b_str T) (by decide +kernel) (pa_cons (pv 2) pa_nil))))) pa_nil))) (pg_name (i := 1) nd rfl (by first | exact Or.inl rfl | exact Or.inr rfl)))
  (pss_cons (ps_asg (pe_op op_cat (pe_listZip rfl rfl (b_zip T) rfl (b_list T) (pa_cons (pe_ix (k_ixl (K := K) rfl) (pv 1) pe_int (fun _ _ => rfl)) (pa_cons (pe_ix (k_ixl (K := K) rfl) (pv 1) pe_int (fun _ _ => rfl)) pa_nil))) (pe_listZip rfl rfl (b_zip T) rfl (b_list T) (pa_cons (pe_slice (k_slice (K := K) rfl) (pe_ix (k_ixl (K := K) rfl) (pv 1) pe_int (fun _ _ => rfl)) (po_some pe_int) po_none) (pa_cons (pe_ix (k_ixl (K := K) rfl) (pv 1) pe_int (fun _ _ => rfl)) pa_nil)))) (pg_name (i := 3) nd rfl (by first | exact Or.inl rfl | exact Or.inr rfl)))
  (pss_cons (ps_par (i := 4) (j := 5) rfl nd rfl rfl (by decide) rfl rfl (pa_cons (pe_n (mk T) (f_S_init T) hr (by decide) rfl (g_Sheet T) (pa_cons (pv 1) (pa_cons (pv 3) pa_nil))) (pa_cons (pe_f (f_law_pick T) hr (by decide) rfl (g_law_pick T) (kp_law_pick T) (pa_cons (pv 0) (pa_cons (pv 3) pa_nil))) pa_nil)) (by rfl))
  (pss_cons (ps_asg (pe_m0 (f_S_parts T) hr (by decide) (cls T) (m_S_parts T) (pe_op (op_own_tup (f_S_sub T) (hr.mono (by decide)) (x_first T) (m_S_sub T) (x_rsub T) (.inl rfl) tup_sub tup_rsub (x_sub T)) (pv 4) (pv 5))) (pg_name (i := 6) nd rfl (by first | exact Or.inl rfl | exact Or.inr rfl)))
  (pss_cons (ps_if (PW.pt (pw_or (pt_cmpR (op_neG mon_sheets (eq_sheets T rfl rfl) (hr.mono (by decide))) (pe_m0 (f_S_parts T) hr (by decide) (cls T) (m_S_parts T) (pv 4)) (pe_lst (pa_cons (pv 4) pa_nil)) (nomark _)) (pw_or (pt_cmpR op_ne (pe_callB (k_len (K := K) rfl) rfl (b_len T) PySem.boot_len (pa_cons (pv 6) pa_nil)) pe_int (nomark _)) (pw_or1 (pt_cmpR (op_ne_own (f_S_eq T) (hr.mono (by decide)) (m_S_eq T) (x_ne T) (x_mo T)) (pe_op (op_own (f_S_or T) (hr.mono (by decide)) (x_first T) (m_S_or T)) (pe_ix (k_ixl (K := K) rfl) (pv 6) pe_int (fun _ _ => rfl)) (pe_ix (k_ixl (K := K) rfl) (pv 6) pe_int (fun _ _ => rfl))) (pe_op (op_own_tup (f_S_sub T) (hr.mono (by decide)) (x_first T) (m_S_sub T) (x_rsub T) (.inl rfl) tup_sub tup_rsub (x_sub T)) (pv 4) (pv 5)) (nomark _))))))
  (pss_one (ps_ret pe_bl))
  pss_nil)
  (pss_one (ps_ret (pe_and (pe_cmpR op_eq (pe_callB (k_sum (K := K) rfl rfl) rfl (b_sum T) (by decide +kernel) (pa_cons (pe_lc (own := [("_law_part", 7)]) (g := gName 7) (tt := tYes) rfl nd (k_ilist (K := K) rfl (pv 6)) (blkOk_by (by rfl)) (fun _ _ _ _ _ => (pg_name (i := 7) nd rfl (by first | exact Or.inl rfl | exact Or.inr rfl))) (fun _ _ _ _ _ => pts_nil) (fun _ _ _ _ _ => (pe_callB (k_len (K := K) rfl) rfl (b_len T) PySem.boot_len (pa_cons (pe_callTy (k_listOwn (K := K) rfl (f_S_iter T) (f_S_len T) rfl (hr.mono (by decide)) (m_S_iter T) (m_S_len T)) rfl (b_list T) (by decide +kernel) (pa_cons (pv 7) pa_nil)) pa_nil)))) pa_nil)) pe_int (nomark _)) (pe_one (pe_cmpR op_eq (pe_callB (k_len (K := K) rfl) rfl (b_len T) PySem.boot_len (pa_cons (pe_m0 (f_S_pairs T) hr (by decide) (cls T) (m_S_pairs T) (pv 4)) pa_nil)) pe_int (nomark _)))))))))))), ?_⟩
    -- the rows
    refine ⟨18, rfl, by decide, by decide, fun A0 hA => ?_⟩
    refine lcG (wk_range 0 18) hA (by show (List.range 18).length < sizeLine; decide) (fun _ => true) (fun i y G => y = .str (num "a" i)) (fun i y G G' g h => h) (fun i hi v H' Nx sN _ ⟨acc, eacc⟩ e _ yes no => ?_) (fun H1 ys s1 eL pp => ?_)
    · subst e
      refine ⟨rfl, tyes (iteT ?_)⟩
      have hi' := List.mem_range.mp hi
      refine ⟨.int (0 + (i : Nat)), rfl, _, rfl, by rw [Int.zero_add]; exact log_small (by omega), _, _, rfl, rfl, ?_, ?_⟩
      · rw [Int.zero_add]
        have := num_len "a" i (List.mem_range.mpr (by omega))
        unfold num at this
        rw [strLen_append] at this
        exact Nat.le_trans this (by decide)
      · rw [Int.zero_add]
        exact yes _ _ rfl (.refl _) rfl
    rw [filter_yes] at pp
    have eA0 : H1 A0 = some (.lst (longA.map V.str)) := by
      rw [eL, paired_eq (f := fun i => V.str (num "a" i)) pp]
      unfold longA
      rw [List.map_map]
      rfl
    have s1' := s1.trans (ers_same _ _)
    clear s1 eL pp
    refine ⟨18, rfl, by decide, by decide, fun B0 hB => ?_⟩
    refine lcG (wk_range 0 18) hB (by show (List.range 18).length < sizeLine; decide) (fun _ => true) (fun i y G => y = .str (num "b" i)) (fun i y G G' g h => h) (fun i hi v H' Nx sN _ ⟨acc, eacc⟩ e _ yes no => ?_) (fun H2 ys s2 eL pp => ?_)
    · subst e
      refine ⟨rfl, tyes (iteT ?_)⟩
      have hi' := List.mem_range.mp hi
      refine ⟨.int (0 + (i : Nat)), rfl, _, rfl, by rw [Int.zero_add]; exact log_small (by omega), _, _, rfl, rfl, ?_, ?_⟩
      · rw [Int.zero_add]
        have := num_len "b" i (List.mem_range.mpr (by omega))
        unfold num at this
        rw [strLen_append] at this
        exact Nat.le_trans this (by decide)
      · rw [Int.zero_add]
        exact yes _ _ rfl (.refl _) rfl
    rw [filter_yes] at pp
    have eB0 : H2 B0 = some (.lst (longB.map V.str)) := by
      rw [eL, paired_eq (f := fun i => V.str (num "b" i)) pp]
      unfold longB
      rw [List.map_map]
      rfl
    have s2' := s2.trans (ers_same _ _)
    clear s2 eL pp
    refine ⟨by show 2 ≤ sizeLine; decide, fun R hR => ?_⟩
    have s3 := same_new hR (o := .lst [.ref A0, .ref B0])
    have eR : (upd H2 R (.lst [.ref A0, .ref B0])) R = some (.lst [.ref A0, .ref B0]) := upd_same
    have eA3 := s3 _ _ (s2' _ _ eA0)
    have eB3 := s3 _ _ eB0
    have s03 := s1'.trans (s2'.trans s3)
    generalize upd H2 R (.lst [.ref A0, .ref B0]) = H3 at eR eA3 eB3 s03 ⊢
    -- the lines
    refine ⟨.ref R, rfl, R, _, 0, .ref A0, rfl, rfl, sqR eR, atI_nat (j := 0) rfl, .ref R, rfl, R, _, 1, .ref B0, rfl, rfl, sqR eR, atI_nat (j := 1) rfl, A0, B0, _, _, rfl, sqR eA3, sqR eB3, fun H4 M ts s4 fM eM pM => ?_⟩
    have eR4 := s4 _ _ eR
    refine ⟨.ref R, rfl, R, _, 0, .ref A0, rfl, rfl, sqR eR4, atI_nat (j := 0) rfl, 1, rfl, A0, _, rfl, sqR (s4 _ _ eA3), fun c hc => ?_⟩
    have sc := same_new hc (o := .lst (cutV (longA.map V.str) (some 1) none))
    have ec : (upd H4 c (.lst (cutV (longA.map V.str) (some 1) none))) c = some (.lst ((longA.drop 1).map V.str)) := by rw [upd_same, cut_drop, List.map_drop]
    have s34 := s4.trans sc
    have eM5 := sc _ _ eM
    generalize upd H4 c (.lst (cutV (longA.map V.str) (some 1) none)) = H5 at sc ec s34 eM5 ⊢
    refine ⟨.ref R, rfl, R, _, 1, .ref B0, rfl, rfl, sqR (s34 _ _ eR), atI_nat (j := 1) rfl, c, B0, _, _, rfl, sqR ec, sqR (s34 _ _ eB3), fun H6 N us s6 fN eN pN => ?_⟩
    obtain ⟨q1, rfl, z1, g1⟩ := pairs_lt pM
    obtain ⟨q2, rfl, z2, g2⟩ := pairs_lt pN
    have eq12 : longL = (q1 ++ q2).map (·.2) := by rw [List.map_append, ← z1, ← z2, long_zip]
    have l12 : (q1 ++ q2).length = 35 := by
      have := congrArg List.length eq12
      rw [List.length_map, longL_len] at this
      exact this.symm
    rw [List.length_append] at l12
    rw [List.map_map] at eM5 eN
    have s36 := s34.trans s6
    refine ⟨M, N, _, _, rfl, rfl, s6 _ _ eM5, eN, sz64 (by rw [List.length_map, List.length_map]; omega), fun L hL => ?_⟩
    have s7 := same_new hL (o := .lst (q1.map (V.ref ∘ fun z => z.1) ++ q2.map (V.ref ∘ fun z => z.1)))
    have hLT : LTp (upd H6 L (.lst (q1.map (V.ref ∘ fun z => z.1) ++ q2.map (V.ref ∘ fun z => z.1)))) L (q1 ++ q2) := by
      refine ⟨by rw [upd_same, List.map_append]; rfl, fun z hz => ?_⟩
      rcases List.mem_append.mp hz with h | h
      · exact (((g1 z h).s sc).s s6).s s7
      · exact (g2 z h).s s7
    have s37 := s36.trans s7
    have s07 := s03.trans s37
    have hLL : LL (upd H6 L (.lst (q1.map (V.ref ∘ fun z => z.1) ++ q2.map (V.ref ∘ fun z => z.1)))) R longR :=
      ⟨[(A0, longA), (B0, longB)], rfl, s37 _ _ eR, fun z hz => by
        rcases List.mem_cons.mp hz with rfl | hz
        · exact s37 _ _ eA3
        · cases List.mem_singleton.mp hz
          exact s37 _ _ eB3⟩
    generalize upd H6 L (.lst (q1.map (V.ref ∘ fun z => z.1) ++ q2.map (V.ref ∘ fun z => z.1))) = H7 at hLT s07 hLL ⊢
    rw [← List.length_append] at l12
    generalize q1 ++ q2 = qs at hLT eq12 l12
    -- the sheet, the line
    refine ⟨.ref R, rfl, .ref L, rfl, ?_⟩
    refine mkq2 hLL (.inl ⟨qs, eq12, hLT⟩) long_valid fun x H8 s8 f8 hx => ?_
    have hx8 : SheetAt K H8 x longS := hx.s (dropL_same _ _)
    have hp8 := hp.s (s07.trans s8)
    refine ⟨.ref p, rfl, .ref L, rfl, p, L, _, rfl, hp8, s8 _ _ hLT.1, good_ref _ _, by rw [List.length_map]; omega, by rw [List.length_map]; omega, fun H9 v o9 hp9 mv => ?_⟩
    obtain ⟨z, hz, rfl⟩ := List.mem_map.mp mv
    have g89 := Off.g hp8 o9
    have hx9 := hx8.g g89
    have tz : UR.TP H9 z.1 z.2 := ((hLT.2 z hz).s s8).g g89
    have mone : z.2 ∈ longL := by rw [eq12]; exact List.mem_map.mpr ⟨z, hz, rfl⟩
    have o09 : Off p H H9 := (Off.of (s07.trans s8)).trans o9
    refine ⟨_, _, rfl, ?_⟩
    generalize z.2 = one at tz mone
    generalize z.1 = t1 at tz
    clear hz mv z
    have vL := long_valS
    have mS : one ∈ longS.ln := longS_mem.mpr mone
    have lS : longS.ln.length ≤ 1000000 := Nat.le_trans vL.few (by decide)
    obtain ⟨dx, A1, B1, D1, E1, F1, G1, kf, kg, ex, _⟩ := id hx9
    refine ⟨.ref x, rfl, .ref t1, rfl, x, t1, _, rfl, rfl, hx9.ins, tz, x, t1, longS, one, rfl, hx9, tz, vL.nmLn, mS, lS, longT_val0 one, fun H10 y s10 f10 hy => ?_⟩
    have hy10 : SheetAt K H10 y (longT one) := hy.s (dropL_same _ _)
    have vT := longT_val one
    have uT : Up (longT one) := mkSh_up _ _
    obtain ⟨dy, A2, B2, D2, E2, F2, G2, kf2, kg2, ey, _⟩ := id hy10
    refine ⟨y, dy, _, rfl, ey, rfl, y, longT one, rfl, hy10, vT, uT, fun H11 n as s11 f11 e11 pr => ?_⟩
    obtain ⟨RA, RB, epp⟩ := longT_two mone
    rw [epp] at pr
    obtain ⟨a1, a2, rfl, hA1, hA2⟩ : ∃ a1 a2, as = [a1, a2] ∧ SheetAt K H11 a1 RA ∧ SheetAt K H11 a2 RB := by
      cases pr with
      | cons h t =>
        cases t with
        | cons h' t' =>
          cases t'
          exact ⟨_, _, rfl, h.s (ers_same _ _), h'.s (ers_same _ _)⟩
    obtain ⟨two1, two2, two3, two4⟩ := two_parts uT vT epp
    have mA : RA ∈ partsOf (longT one) := by rw [epp]; exact List.mem_cons_self
    have mB : RB ∈ partsOf (longT one) := by rw [epp]; exact List.mem_cons_of_mem _ List.mem_cons_self
    have vA := parts_valid vT mA
    have vB := parts_valid vT mB
    have uL : Up longS := mkSh_up _ _
    have s911 := s10.trans s11
    have hx11 := hx9.s s911
    -- whole
    refine ⟨.ref x, rfl, x, dx, _, rfl, s911 _ _ ex, rfl, x, longS, rfl, hx11, vL, uL, fun H12 k ks s12 f12 e12 pk => ?_⟩
    rw [long_parts] at pk
    refine ⟨.ref x, rfl, by show 1 ≤ sizeLine; exact sz64 (by decide), fun M1 hM1 => ?_⟩
    have sM := same_new hM1 (o := .lst [.ref x])
    have hx13 := (hx11.s s12).s sM
    refine ⟨⟨k, M1, _, _, rfl, rfl, sM _ _ e12, upd_same, prs_sheets (bs := [x]) (L2.Paired.mapP pk fun _ _ h => h.s ((ers_same _ _).trans sM)) (.cons hx13 .nil) (fun R' m => by cases List.mem_singleton.mp m; exact vL)⟩, fun H13 s13 => ⟨false, rfl, iteF ?_⟩⟩
    have s1113 : Same H11 H13 := (s12.trans sM).trans s13
    have e13 := s1113 _ _ e11
    refine ⟨.ref n, rfl, n, _, rfl, .inl (sqR e13), rfl, _, rfl, iteF ?_⟩
    have hA13 := hA1.s s1113
    have hB13 := hA2.s s1113
    have tAB : RA.lv.length = RB.lv.length := (parts_tall mA).trans (parts_tall mB).symm
    refine ⟨.ref n, rfl, n, _, 0, .ref a1, rfl, rfl, sqR e13, atI_nat (j := 0) rfl, .ref n, rfl, n, _, 1, .ref a2, rfl, rfl, sqR e13, atI_nat (j := 1) rfl, a1, a2, rfl, rfl, hA13.ins, hB13.ins, a1, a2, RA, RB, rfl, hA13, hB13, tAB, two3, .inr (part_some mB), Nat.le_trans vA.flat (by decide), two2, fun H14 u s14 f14 hu => ?_⟩
    rw [two1] at hu
    have hu14 : SheetAt K H14 u (longT one) := hu.s (dropL_same _ _)
    have s914 := s911.trans (s1113.trans s14)
    have hx14 := hx9.s s914
    have tz14 := tz.s s914
    refine ⟨.ref x, rfl, .ref t1, rfl, x, t1, _, rfl, rfl, hx14.ins, tz14, x, t1, longS, one, rfl, hx14, tz14, vL.nmLn, mS, lS, longT_val0 one, fun H15 y2 s15 f15 hy2 => ?_⟩
    have hy15 : SheetAt K H15 y2 (longT one) := hy2.s (dropL_same _ _)
    have hu15 := hu14.s s15
    refine ⟨u, y2, rfl, rfl, hu15.ins, hy15.ins, u, y2, longT one, longT one, rfl, hu15, hy15, ⟨vT.nmLv, vT.nmLn⟩, ⟨vT.nmLv, vT.nmLn⟩, _, rfl, _, rfl, ?_⟩
    rw [decide_eq_true rfl]
    refine iteF ?_
    -- the sizes
    have s1115 := s1113.trans (s14.trans s15)
    have e15 : H15 n = some (.lst ([(a1, RA), (a2, RB)].map fun z : Addr × Sh => V.ref z.1)) := s1115 _ _ e11
    have hz15 : ∀ z ∈ [(a1, RA), (a2, RB)], SheetAt K H15 z.1 z.2 ∧ z.2.lv.length ≤ 12 := fun z hz => by
      rcases List.mem_cons.mp hz with rfl | hz
      · exact ⟨hA1.s s1115, vA.tall⟩
      · cases List.mem_singleton.mp hz
        exact ⟨hA2.s s1115, vB.tall⟩
    refine ⟨.ref n, rfl, n, rfl, ⟨_, sqR e15⟩, fun D hD => ?_⟩
    refine lcG (wk_list (K := K) (f := fun z : Addr × Sh => V.ref z.1) (sqR e15) (good_ref _ _)) hD (by show 2 < sizeLine; decide) (fun _ => true) (fun z y _ => y = .int ((z.2.lv.flatten.length : Nat) : Int)) (fun _ _ _ _ _ h => h) (fun z hz v H16 Nx sN _ _ e1 _ yes no => ?_) (fun H16 ys s16 eD pD => ?_)
    · subst e1
      obtain ⟨h1, h2⟩ := hz15 z hz
      refine ⟨rfl, tyes (iteT ?_)⟩
      refine ⟨.ref z.1, rfl, ?_⟩
      delta tNil
      refine listq (h1.s (sN.trans (ers_same _ _))) (by omega) fun H17 l s17 f17 el => ?_
      refine ⟨l, _, rfl, .inl (sqR el), ?_⟩
      refine yes _ _ rfl s17 ?_
      rw [List.length_map]
    rw [filter_yes] at pD
    have s16' := s16.trans (ers_same _ _)
    have ens : H16 D = some (.lst (([((RA.lv.flatten.length : Nat) : Int), ((RB.lv.flatten.length : Nat) : Int)]).map V.int)) := by
      rw [eD, paired_eq (f := fun z : Addr × Sh => V.int ((z.2.lv.flatten.length : Nat) : Int)) pD]
      rfl
    refine ⟨D, _, rfl, sqR ens, rfl, _, rfl, ?_⟩
    have c36 : decide (V.int ([((RA.lv.flatten.length : Nat) : Int), ((RB.lv.flatten.length : Nat) : Int)].sum) = V.int 36) = true := by
      refine decide_eq_true (congrArg V.int ?_)
      have h := two4
      rw [longT_lv, longS_len] at h
      simp only [List.sum_cons, List.sum_nil]
      omega
    rw [c36]
    refine iteT ?_
    have hx16 := ((hx14.s s15).s s16')
    obtain ⟨dx9, A9, B9, D9, E9, F9, G9, kf9, kg9, ex9, _⟩ := id hx16
    refine ⟨.ref x, rfl, x, dx9, _, rfl, ex9, rfl, x, longS, rfl, hx16, vL.tall, vL.wide, fun H18 m9 ws s18 ew lw => ?_⟩
    refine ⟨m9, ws, rfl, .inl (sqR ew), rfl, ?_⟩
    rw [lw, long_pairs]
    have sF := s914.trans (s15.trans (s16'.trans s18))
    exact q _ (o09.trans (Off.of sF)) (hp9.s sF)
end
end U

set_option linter.all false
set_option maxRecDepth 100000
set_option maxHeartbeats 8000000
/-! The law's walks, thirteenth part: one cell, the law. -/
namespace U
open PySem PySem.Spec PyProof.Rows L2 UR
theorem PlanAt.g {H H' : Hp} {t : Addr} {rows : Lv} {ls : Ln} (h : PlanAt H t rows ls) (s : SameG H H') : PlanAt H' t rows ls := let ⟨A, B, e, a, b⟩ := h; ⟨A, B, s _ _ True.intro e, a.g s, b.g s⟩
theorem many_lines {d : Int} (h0 : 0 ≤ d) (h : d < 3) : ∃ m : Nat, m ≤ 15 ∧ atI [V.int 3, V.int 8, V.int 15] d = some (.int m) := by
  have : d = 0 ∨ d = 1 ∨ d = 2 := by omega
  rcases this with rfl | rfl | rfl
  · exact ⟨3, by decide, atI_nat (j := 0) rfl⟩
  · exact ⟨8, by decide, atI_nat (j := 1) rfl⟩
  · exact ⟨15, by decide, atI_nat (j := 2) rfl⟩
theorem parts_none {n : Nat} : partsOf (mkSh (List.replicate n []) []) = [] := by
  have e : (mkSh (List.replicate n []) []).lv.flatten = [] := by
    refine List.flatten_eq_nil_iff.mpr fun r m => ?_
    obtain ⟨r', m', rfl⟩ := List.mem_map.mp m
    rw [(List.mem_replicate.mp m').2]
    exact (srt_perm []).eq_nil
  unfold partsOf
  rw [e]
  unfold roots
  rfl
section
variable {P : Program} {w : World} {K : PySem.W.Frag} {mg : Str → Option Value} {base : Heap} (T : TX K mg)
include T
def sp_law_right : SpG := fun g vs H Q _ => g = [] ∧ ∃ (p : Addr), vs = [.ref p] ∧ PotAt H p ∧ ∀ H', Off p H H' → Q (.bl true) H'
theorem f_law_right : FnG P w K mg base 36 (fA K "_law_right") sp_law_right := by
  obtain ⟨fd, F⟩ := dd_law_right T
  have nd := sc_law_right.nd
  refine fnG F (F.bindsN fun _ _ _ _ _ _ us hl => match us, hl with | [_], _ => rfl) sc_law_right (fun g vs H Q E h => ?_) (fun cdv A g outer s H vs Q E hg hr h => ?_)
  · obtain ⟨_, p, rfl, _⟩ := h; rfl
  · obtain ⟨rfl, p, rfl, hp, q⟩ := h
    refine ⟨_, PSs.nox ((pss_cons (ps_if (pt_not (pt_val (pe_f (f_law_long_right T) hr (by decide) rfl (g_law_long_right T) (kp_law_long_right T) (pa_cons (pv 0) pa_nil))))
  (pss_one (ps_ret pe_bl))
  pss_nil)
  (pss_cons (ps_for PassesOwn.never rfl (pi_range1 rfl (b_range T) (pa_cons pe_int pa_nil)) (pg_name (i := 1) nd rfl (by first | exact Or.inl rfl | exact Or.inr rfl))
  (pss_cons (ps_asg (pe_f (f_law_plan T) hr (by decide) rfl (g_law_plan T) (kp_law_plan T) (pa_cons (pv 0) (pa_cons pe_int (pa_cons pe_int (pa_cons (pe_ix (k_ixl (K := K) rfl) (pe_lst (pa_cons pe_int (pa_cons pe_int (pa_cons pe_int pa_nil)))) (pe_f (f_law_draw T) hr (by decide) rfl (g_law_draw T) (kp_law_draw T) (pa_cons (pv 0) (pa_cons pe_int pa_nil))) (fun _ _ => rfl)) pa_nil))))) (pg_name (i := 2) nd rfl (by first | exact Or.inl rfl | exact Or.inr rfl)))
  (pss_cons (ps_asg (pe_f (f_law_sheet T) hr (by decide) rfl (g_law_sheet T) (kp_law_sheet T) (pa_cons (pv 2) pa_nil)) (pg_name (i := 3) nd rfl (by first | exact Or.inl rfl | exact Or.inr rfl)))
  (pss_cons (ps_if (PW.pt (pw_or (pt_not (pt_val (pe_fG (f_law_told_right T) hg hr (by decide) rfl (g_law_told_right T) (kp_law_told_right T) (pa_cons (pv 3) (pa_cons (pv 2) pa_nil))))) (pw_or1 (pt_not (pt_val (pe_f (f_law_again_right T) hr (by decide) rfl (g_law_again_right T) (kp_law_again_right T) (pa_cons (pv 0) (pa_cons (pv 3) pa_nil))))))))
  (pss_one (ps_ret pe_bl))
  pss_nil)
  (pss_cons (ps_if (pt_not (pt_val (pe_f (f_law_joined_right T) hr (by decide) rfl (g_law_joined_right T) (kp_law_joined_right T) (pa_cons (pv 0) (pa_cons (pv 3) (pa_cons (pv 2) pa_nil))))))
  (pss_one (ps_ret pe_bl))
  pss_nil)
  (pss_one (ps_if (pt_not (pt_val (pe_callB (k_all (K := K) rfl rfl) rfl (b_all T) (by decide +kernel) (pa_cons (pe_lc (own := [("_law_near", 4), ("_law_further", 5)]) (tt := tYes) rfl nd (k_ilist (K := K) rfl (pe_f (f_law_others T) hr (by decide) rfl (g_law_others T) (kp_law_others T) (pa_cons (pv 0) (pa_cons (pv 3) (pa_cons (pv 2) pa_nil))))) (blkOk_by (by rfl)) (fun _ _ _ _ _ => (k_gtup (K := K) (n := 2) rfl rfl (pgs_cons (pg_name (i := 4) nd rfl (by first | exact Or.inl rfl | exact Or.inr rfl)) (pgs_cons (pg_name (i := 5) nd rfl (by first | exact Or.inl rfl | exact Or.inr rfl)) pgs_nil)))) (fun _ _ _ _ _ => pts_nil) (fun _ _ _ _ _ => (pe_cmpR (op_eqG (rc_sheets T rfl rfl) (hr.mono (by decide))) (pe_m0 (f_S_parts T) hr (by decide) (cls T) (m_S_parts T) (pv 4)) (pe_f (f_law_parts T) hr (by decide) rfl (g_law_parts T) (kp_law_parts T) (pa_cons (pv 5) pa_nil)) (nomark _)))) pa_nil))))
  (pss_one (ps_ret pe_bl))
  pss_nil)))))))
  (pss_cons (ps_asg (pe_n (mk T) (f_S_init1 T) hr (by decide) rfl (g_Sheet T) (pa_cons (pe_lc (own := [("_law_level_now", 7)]) (g := gName 7) (tt := tYes) rfl nd (pi_range1 rfl (b_range T) (pa_cons (pe_op op_add pe_int (pe_f (f_law_draw T) hr (by decide) rfl (g_law_draw T) (kp_law_draw T) (pa_cons (pv 0) (pa_cons pe_int pa_nil)))) pa_nil)) (blkOk_by (by rfl)) (fun _ _ _ _ _ => (pg_name (i := 7) nd rfl (by first | exact Or.inl rfl | exact Or.inr rfl))) (fun _ _ _ _ _ => pts_nil) (fun _ _ _ _ _ => (pe_lst pa_nil))) pa_nil)) (pg_name (i := 6) nd rfl (by first | exact Or.inl rfl | exact Or.inr rfl)))
  (pss_one (ps_ret (pe_cmpR (op_eqG (rc_sheets T rfl rfl) (hr.mono (by decide))) (pe_m0 (f_S_parts T) hr (by decide) (cls T) (m_S_parts T) (pv 6)) (pe_lst pa_nil) (nomark _)))))))), ?_⟩
    refine ⟨.ref p, rfl, p, rfl, hp, fun H1 o1 hp1 => ⟨true, rfl, iteF ?_⟩⟩
    refine ⟨4, rfl, by decide, by decide, ?_⟩
    refine forG (Hb := fun _ => none) (bs := List.range 4) (wk_range 0 4) (fun i σ H' => ∃ (y1 y2 y3 : Option V), σ = [some (.ref p), y1, y2, y3, none, none, none, none] ∧ Off p H H' ∧ PotAt H' p)
      ⟨_, _, _, rfl, o1, hp1⟩ (fun _ _ _ _ => fun b o _ z => nomatch (show (none : Option HO) = some o from z)) ?_ ?_
    · rintro i b v σ H2 H3 eb ⟨y1, y2, y3, rfl, o2, hp2⟩ sm rfl
      have o3 := o2.trans (Off.of sm)
      have hp3 := hp2.s sm
      -- the plan
      refine ⟨.ref p, rfl, by show 3 ≤ sizeLine; decide, fun M hM => ?_⟩
      have sM := same_new hM (o := .lst [.int 3, .int 8, .int 15])
      have eM : (upd H3 M (.lst [.int 3, .int 8, .int 15])) M = some (.lst [.int 3, .int 8, .int 15]) := upd_same
      have npM : p ≠ M := by obtain ⟨x, y, e, _⟩ := hp3; exact ne_of_none e hM
      have o4 := o3.trans (Off.of sM)
      have hp4 := hp3.s sM
      generalize upd H3 M (.lst [.int 3, .int 8, .int 15]) = H4 at eM o4 hp4 ⊢
      clear sM
      refine ⟨.ref p, rfl, p, 3, rfl, hp4, by decide, by decide, fun H5 d o5 hp5 d0 d1 => ?_⟩
      obtain ⟨m, hm, am⟩ := many_lines d0 d1
      refine ⟨M, _, d, _, rfl, rfl, sqR (o5 _ _ npM.symm eM), am, ?_⟩
      refine ⟨p, m, rfl, hp5, hm, fun H6 t rows ls o6 hp6 pl hP => ?_⟩
      have o06 := (o4.trans o5).trans o6
      have va := pl.valid
      -- the sheet
      refine ⟨.ref t, rfl, t, rows, ls, rfl, hP, va, fun H7 a s7 f7 h7 => ?_⟩
      have hS := h7.s (dropL_same _ _)
      have hP7 := hP.s s7
      have hp7 := hp6.s s7
      have o07 := o06.trans (Off.of s7)
      -- told, again
      refine ⟨.ref a, rfl, .ref t, rfl, rfl, a, t, rows, ls, rfl, hS, hP7, va, fun H8 s8 => ⟨true, rfl, iteF ?_⟩⟩
      have hp8 := hp7.s s8
      refine ⟨.ref p, rfl, .ref a, rfl, p, a, mkSh rows ls, rfl, hp8, hS.s s8, va.srt, mkSh_up _ _, fun H9 o9 hp9 => ⟨true, rfl, iteF ?_⟩⟩
      have g79 : SameG H7 H9 := s8.g.trans (Off.g hp8 o9)
      have o09 := (o07.trans (Off.of s8)).trans o9
      have hS9 := hS.g g79
      have hP9 := hP7.g g79
      -- joined
      refine ⟨.ref p, rfl, .ref a, rfl, .ref t, rfl, p, a, t, rows, ls, rfl, hp9, hS9, hP9, pl, fun H10 o10 hp10 => ⟨true, rfl, iteF ?_⟩⟩
      have g10 := Off.g hp9 o10
      have o010 := o09.trans o10
      have hS10 := hS9.g g10
      have hP10 := hP9.g g10
      -- others
      refine ⟨.ref p, rfl, .ref a, rfl, .ref t, rfl, p, a, t, rows, ls, rfl, hS10, hP10, pl, fun H11 f ts s11 ef few all => ?_⟩
      refine ⟨f, rfl, ⟨_, sqR ef⟩, fun D hD => ?_⟩
      refine lcG (wk_list (K := K) (f := V.ref) (sqR ef) (good_refs ts)) hD (sz64' (by omega)) (fun _ => true) (fun _ y _ => y = .bl true) (fun _ _ _ _ _ h => h) (fun z hz v H12 Nx sN _ _ e1 _ yes no => ?_) (fun H12 ys s12 eD pD => ?_)
      · subst e1
        obtain ⟨n, t2, rows2, ls2, ez, hn, ht, v2⟩ := (all z hz).s (sN.trans (ers_same _ _))
        obtain ⟨dx, A1, B1, D1, E1, F1, G1, kf, kg, ex, _⟩ := id hn
        refine ⟨z, _, rfl, .inl (.inl ez), rfl, _, _, rfl, _, _, rfl, rfl, rfl, tyes (iteT ?_)⟩
        refine ⟨.ref n, rfl, n, dx, _, rfl, ex, rfl, n, mkSh rows2 ls2, rfl, hn, v2.srt, mkSh_up _ _, fun H13 k ks s13 f13 e13 pk => ?_⟩
        refine ⟨.ref t2, rfl, t2, rows2, ls2, rfl, ht.s s13, v2, fun H14 k2 ks2 s14 f14 e14 pk2 => ?_⟩
        refine ⟨⟨k, k2, _, _, rfl, rfl, s14 _ _ e13, e14, prs_sheets (L2.Paired.mapP pk fun _ _ h => h.s ((ers_same _ _).trans s14)) (L2.Paired.mapP pk2 fun _ _ h => h.s (ers_same _ _)) fun R hR => parts_valid v2.srt hR⟩, fun H15 s15 => ?_⟩
        exact yes _ _ rfl ((s13.trans s14).trans s15) rfl
      rw [filter_yes] at pD
      refine all_true eD pD ⟨true, rfl, iteF ?_⟩
      have s1012 := s11.trans (s12.trans (ers_same _ _))
      exact ⟨_, _, _, rfl, o010.trans (Off.of s1012), hp10.s s1012⟩
    · rintro σ H2 ⟨y1, y2, y3, rfl, o2, hp2⟩
      refine ⟨.ref p, rfl, p, 4, rfl, hp2, by decide, by decide, fun H3 d o3 hp3 d0 d1 => ?_⟩
      have o03 := o2.trans o3
      refine ⟨1, d, rfl, rfl, 1 + d, rfl, by omega, by omega, fun L hL => ?_⟩
      obtain ⟨n, en, n0, n4⟩ : ∃ n : Nat, (1 + d).toNat = n ∧ 0 < n ∧ n ≤ 4 := ⟨(1 + d).toNat, rfl, by omega, by omega⟩
      refine lcG (wk_range 0 (1 + d).toNat) hL (sz64' (by rw [List.length_range]; omega)) (fun _ => true) (fun z y G => ∃ t, y = .ref t ∧ LS G t []) (fun z y G G' g ⟨t, e, h⟩ => ⟨t, e, h.s g⟩) (fun z hz v H' Nx sN _ ⟨acc, eacc⟩ e _ yes no => ?_) (fun H4 ys s4 eL pp => ?_)
      · subst e
        refine ⟨rfl, tyes (iteT ⟨Nat.zero_le _, fun t ht => ?_⟩)⟩
        have nt : t ≠ L := fun e => by rw [e, eacc] at ht; cases ht
        exact yes _ _ rfl (same_new ht) ⟨t, rfl, (ers_ne nt).trans upd_same⟩
      rw [filter_yes] at pp
      have s4' := s4.trans (ers_same _ _)
      have hLL : LL H4 L (List.replicate n []) := by
        have h := LL.made (gg := fun _ : Nat => ([] : List Str)) (L2.Paired.mapP pp fun z y ⟨t, e, h⟩ => ⟨t, e, h.s (ers_same _ _)⟩) eL
        rwa [List.map_const', List.length_range, en] at h
      have vE := empty_valid n0 (show n ≤ 12 by omega)
      refine mkq2 hLL (.inr ⟨rfl, tup0 T⟩) vE fun x H5 s5 f5 hx => ?_
      have hx5 := hx.s (dropL_same _ _)
      obtain ⟨dx, A1, B1, D1, E1, F1, G1, kf, kg, ex, _⟩ := id hx5
      refine ⟨.ref x, rfl, x, dx, _, rfl, ex, rfl, x, mkSh (List.replicate n []) [], rfl, hx5, vE.srt, mkSh_up _ _, fun H6 k ks s6 f6 e6 pk => ?_⟩
      rw [parts_none] at pk
      cases pk
      refine ⟨Nat.zero_le _, fun M hM => ?_⟩
      have sM := same_new hM (o := .lst [])
      refine ⟨⟨k, M, _, _, rfl, rfl, sM _ _ e6, upd_same, Prs.nil⟩, fun H7 s7 => ?_⟩
      exact q H7 (o03.trans (Off.of (((s4'.trans s5).trans s6).trans (sM.trans s7))))
def sp_law (K : PySem.W.Frag) : SpG := fun g vs H Q _ => g = [] ∧ ∃ (a : Addr) (ns : List Int), vs = [.ref a] ∧ SqL K H a (ns.map V.int) ∧ ns.length ≤ 63 ∧ ∀ H', Q (.bl true) H'
theorem f_law : FnG P w K mg base 41 (fA K "law") (sp_law K) := by
  obtain ⟨fd, F⟩ := dd_law T
  have nd := sc_law.nd
  refine fnG F (F.bindsN fun _ _ _ _ _ _ us hl => match us, hl with | [_], _ => rfl) sc_law (fun g vs H Q E h => ?_) (fun cdv A g outer s H vs Q E hg hr h => ?_)
  · obtain ⟨_, a, ns, rfl, _⟩ := h; rfl
  · obtain ⟨rfl, a, ns, rfl, ha, hn, q⟩ := h
    refine ⟨_, PSs.nox ((pss_one (ps_ret (pe_callB (k_all (K := K) rfl rfl) rfl (b_all T) (by decide +kernel) (pa_cons (pe_lc (own := [("_law_k", 1)]) (g := gName 1) (tt := tYes) rfl nd (pi_range1 rfl (b_range T) (pa_cons (pe_callB (call_max2 rfl) rfl (b_max T) (by decide +kernel) (pa_cons pe_int (pa_cons (pe_callB (call_min2 rfl) rfl (b_min T) (by decide +kernel) (pa_cons pe_int (pa_cons (pe_callB (k_len (K := K) rfl) rfl (b_len T) PySem.boot_len (pa_cons (pv 0) pa_nil)) pa_nil))) pa_nil))) pa_nil)) (blkOk_by (by rfl)) (fun _ _ _ _ _ => (pg_name (i := 1) nd rfl (by first | exact Or.inl rfl | exact Or.inr rfl))) (fun _ _ _ _ _ => pts_nil) (fun _ _ _ _ _ => (pe_fG (f_law_right T) hg hr (by decide) rfl (g_law_right T) (kp_law_right T) (pa_cons (pe_f (f_law_pot T) hr (by decide) rfl (g_law_pot T) (kp_law_pot T) (pa_cons (pv 0) (pa_cons (pv 1) pa_nil))) pa_nil)))) pa_nil))))), ?_⟩
    have ext : ∀ {H' : Hp}, Same H H' → SqL K H' a (ns.map V.int) := fun {H'} g => by
      rcases ha with (h | ⟨o, h⟩) | h
      · exact .inl (.inl (g _ _ h))
      · exact .inl (.inr ⟨o, g _ _ h⟩)
      · exact .inr h
    refine ⟨.ref a, rfl, a, _, rfl, .inl ha, 3, _, rfl, 1, _, rfl, ?_⟩
    generalize hj : (if (if (((ns.map V.int).length : Nat) : Int) < 3 then (((ns.map V.int).length : Nat) : Int) else 3) > 1 then (if (((ns.map V.int).length : Nat) : Int) < 3 then (((ns.map V.int).length : Nat) : Int) else 3) else 1) = j
    have j0 : 0 ≤ j ∧ j ≤ 3 := by
      rw [← hj]
      split <;> split <;> omega
    refine ⟨j, rfl, by omega, by omega, fun D hD => ?_⟩
    refine lcG (te := fun σ H Q => tCons (tCall (sp_law_pot K) [] E0 (tCons (tVar 0) (tCons (tVar 1) tNil))) tNil σ H fun vs H1 => sp_law_right [] vs H1 Q E0) (wk_range 0 j.toNat) hD (sz64' (by rw [List.length_range]; omega)) (fun _ => true) (fun _ y _ => y = .bl true) (fun _ _ _ _ _ h => h) (fun k hk v H' Nx sN _ ⟨acc, eacc⟩ e _ yes no => ?_) (fun H1 ys s1 eD pD => ?_)
    · subst e
      have hk' := List.mem_range.mp hk
      refine ⟨rfl, tyes (iteT ?_)⟩
      refine ⟨.ref a, rfl, .int (0 + (k : Nat)), rfl, a, ns, k, by rw [Int.zero_add]; rfl, ext (sN.trans (ers_same _ _)), by omega, fun H2 p s2 f2 hp => ?_⟩
      refine ⟨rfl, p, rfl, hp, fun H3 o3 => ?_⟩
      have s3 : Same H' H3 := fun b o e => o3 b o (ne_of_none e f2) (s2 _ _ e)
      exact yes _ _ rfl s3 rfl
    rw [filter_yes] at pD
    exact all_true eD pD (q H1)
end
end U

set_option linter.all false
set_option maxRecDepth 100000
set_option maxHeartbeats 8000000
namespace U
open PySem PySem.Spec PyProof.Rows L2 UR
end U
open PySem PySem.W PySem.Calls PyProof.Rows
set_option maxRecDepth 100000 in
set_option maxHeartbeats 8000000 in
theorem PySem.Challenge.cw_uplines_k15_whole_parts_holds : PySem.Challenge.rw_uplines_k15_whole_parts.Holds := by
  w_on; o_law
  refine HandSHeadRun.head_any (r := OpenLaw.row PySem.Challenge.rw_uplines_k15_whole_parts) (q := view (OpenLaw.row PySem.Challenge.rw_uplines_k15_whole_parts).prog [U.lawAt]) (H := U.hk) (ob := U.ob) (M := 6000) (loose := U.loose) (d := HandSHeadRun.topDef (OpenLaw.row PySem.Challenge.rw_uplines_k15_whole_parts).prog U.lawAt) (kwd := []) U.ob_eq
    (by kernel_rfl) (fun s => by kernel_rfl) U.run (by kernel_rfl) (by kernel_rfl) (by kernel_rfl) (by rfl) (by first | assumption | decide +kernel) (by decide +kernel) ⟨rfl, rfl, rfl, rfl, rfl, by decide +kernel⟩ ?hw ?hc
  case hw => w_witness2
  case hc =>
    refine UR.walk_ofG (l := PySem.Challenge.rw_uplines_k15_whole_parts) (n := 63) (k := 41) rfl (by decide) (by kernel_rfl) ⟨rfl, by decide, by decide⟩ ?F
    intro w mg fa h Y G hmg0
    obtain ⟨K, KX, c⟩ := Y
    have hmg : mg ("law" : PySem.Str) = some (.ref fa) := by
      have e : (HandSHeadRun.topDef (OpenLaw.row PySem.Challenge.rw_uplines_k15_whole_parts).prog U.lawAt).name = ("law" : PySem.Str) := by kernel_rfl
      rw [← e]
      exact hmg0
    have T : U.TX K mg := ⟨c, h, KX, G⟩
    have efa : fa = U.fA K "law" := by
      have e1 := U.g_law T
      rw [hmg] at e1
      exact Value.ref.inj (Option.some.inj e1)
    subst efa
    exact ⟨K, U.sp_law K, KX, fun H a ns hl _ hS => ⟨rfl, a, ns, rfl, hS, hl, fun _ => rfl⟩, fun base _ _ => U.f_law T⟩
